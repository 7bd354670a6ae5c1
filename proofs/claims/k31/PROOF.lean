import PyProof.Rows.All
import Wide.All
import OpenK.AllK
import Wide.FinOn
import HandS.ForMost
import HandS.TupAny
import HandS.TupMul
import HandS.Deep
import KE.KDictKeyed
import HandS.TupSets
import HandS.Set
import HandS.WideBits
import HandS.Wide
import HandS.Style
import HandS.Steps
import HandS.IsInst
import HandS.Conv
import PyProof.ReprRoads
import PyProof.CallFns
import KE.SortData
import PyProof.Rows.SortWalk
import PyProof.Rows.RegFStrParts
import KE.DataEq
import HandS.SetFor
import HandS.SortInts
import PyProof.SeqIndex
import KE.DataFind
import KE.GoesNew
import PySem.Challenge.RW_settledhands_k31_whole_any_value_as_run
set_option Elab.async false
set_option linter.all false
set_option maxRecDepth 100000
set_option maxHeartbeats 4000000
namespace DD
open PySem PySem.Spec PyProof.Rows L2

/-! ## the world, the classes -/
class HasW where
  P : Program
  w : World
  cls : String → Option Addr
variable [IW : HasW]
/-! ## data -/
inductive Dv where
  | non | bl (b : Bool) | int (i : Int) | str (x : Str)
  | tup (ws : List Dv) | lst (ws : List Dv) | ref (n : Nat) | kls (ws : List Dv) | ty (n : String) | fx (a : Addr)
  | dct (ks vs : List Dv) | dck (ks : List Key) (vs : List Dv) | ob (cl : String) (fs : List Str) (vs : List Dv)
  | sti (ns : List Int) | stt (nss : List (List Int)) | cl (n : String)
  deriving Inhabited
/-- what is live -/
inductive MO where
  | lst (ws : List Dv) | dct (ks vs : List Dv) | dck (ks : List Key) (vs : List Dv) | ob (cl : String) (fs : List Str) (vs : List Dv) | gone
abbrev Sto := List MO
abbrev En := List (Option Dv)
mutual
/-- data as a key -/
def nk : Dv → Option NestedKey
  | .non => some .none
  | .bl b => some (.num (if b then 1 else 0))
  | .int i => some (.num i)
  | .str x => some (.text x)
  | .tup ws => (nks ws).map .tup
  | _ => none
def nks : List Dv → Option (List NestedKey)
  | [] => some []
  | w :: ws => match nk w, nks ws with
    | some k, some ks => some (k :: ks)
    | _, _ => none
end
abbrev Ent := NestedKey × Addr × Value
/-- a dict whose keys are tuples, by its own object -/
def DctO (a : Addr) (xs : List Ent) : HO := .ext fun h => ∃ o es ep, h.get? a = some o ∧ o.ExactDict ∧ o.data = .dict es ep ∧ es.toList = xs.map (entryOfKey (nestedKind IW.P IW.w)) ∧ (xs.map (·.1)).Nodup ∧ xs.length ≤ sizeLine ∧ (a == sysModules) = false ∧ ∀ x ∈ xs, x.1.depth ≤ 8

/-- a set of ints, by its own object -/
def StI (a : Addr) (ns : List Int) : HO := .ext fun h => SetR IW.w h a (fun i => decide (i ∈ ns)) ns.length

structure Cf where
  K : PySem.W.Frag
  hd : List Addr

/-- a list that is never changed: locked, or of the written part -/
def Fx (K : PySem.W.Frag) (H : Hp) (a : Addr) (xs : List V) : Prop := (∃ o, H a = some (.frz o (.lst xs))) ∨ SqL K (fun _ => none) a xs
theorem Fx.sq {K : PySem.W.Frag} {H : Hp} {a : Addr} {xs : List V} (h : Fx K H a xs) : SqL K H a xs := by
  rcases h with ⟨o, h⟩ | h
  · exact .inl (.inr ⟨o, h⟩)
  · rcases h with (h | ⟨o, h⟩) | h
    · cases h
    · cases h
    · exact .inr h
theorem Fx.of {K : PySem.W.Frag} {H : Hp} {a : Addr} {xs : List V} (h : SqL K H a xs) (n : ∀ ys, H a ≠ some (.lst ys)) : Fx K H a xs := by
  rcases h with (h | ⟨o, h⟩) | h
  · exact absurd h (n _)
  · exact .inl ⟨o, h⟩
  · exact .inr (.inr h)
theorem Fx.mv {K : PySem.W.Frag} {H H' : Hp} {a : Addr} {xs : List V} (h : Fx K H a xs) (k : ∀ o, H a = some (.frz o (.lst xs)) → H' a = some (.frz o (.lst xs))) : Fx K H' a xs := by
  rcases h with ⟨o, h⟩ | h
  · exact .inl ⟨o, k o h⟩
  · exact .inr h
/-- a tuple: tracked, or of the written part -/
def Tq (K : PySem.W.Frag) (H : Hp) (a : Addr) (xs : List V) : Prop := H a = some (.tup xs) ∨ SqT K (fun _ => none) a xs
theorem Tq.sq {K : PySem.W.Frag} {H : Hp} {a : Addr} {xs : List V} (h : Tq K H a xs) : SqT K H a xs := by
  rcases h with h | (h | ⟨o, h⟩) | h
  · exact .of h
  · cases h
  · cases h
  · exact .inr h
theorem Tq.mv {K : PySem.W.Frag} {H H' : Hp} {a : Addr} {xs : List V} (h : Tq K H a xs) (k : H a = some (.tup xs) → H' a = some (.tup xs)) : Tq K H' a xs := by
  rcases h with h | h
  · exact .inl (k h)
  · exact .inr h
/-- a live thing of the store -/
def Lv (io : List Addr) (S : Sto) (a : Addr) : Prop := ∃ (n : Nat) (o : MO), io[n]? = some a ∧ S[n]? = some o ∧ o ≠ .gone

mutual
def Dn (c : Cf) (H : Hp) (io : List Addr) (S : Sto) : Dv → V → Prop
  | .non, v => v = .non
  | .bl b, v => v = .bl b
  | .int i, v => v = .int i
  | .str x, v => v = .str x
  | .ty n, v => v = .ty n
  | .fx a, v => v = .ref a
  | .tup ws, v => ∃ a xs, v = .ref a ∧ Tq c.K H a xs ∧ Dns c H io S ws xs
  | .lst ws, v => ∃ a xs, v = .ref a ∧ H a = some (.lst xs) ∧ ¬ Lv io S a ∧ a ∉ c.hd ∧ xs.length ≤ sizeLine ∧ Dns c H io S ws xs
  | .kls ws, v => ∃ a xs, v = .ref a ∧ Fx c.K H a xs ∧ Dns c H io S ws xs
  | .ref n, v => ∃ a, v = .ref a ∧ io[n]? = some a
  | .dct ks vs, v => ∃ a xs us, v = .ref a ∧ H a = some (DctO a xs) ∧ ¬ Lv io S a ∧ a ∉ c.hd ∧ nks ks = some (xs.map (·.1)) ∧ Dns c H io S ks (xs.map fun x => V.ref x.2.1) ∧ Vals us (xs.map (·.2.2)) ∧ Dns c H io S vs us
  | .dck ks vs, v => ∃ a us, v = .ref a ∧ H a = some (.dK (ks.zip us)) ∧ ¬ Lv io S a ∧ a ∉ c.hd ∧ us.length = ks.length ∧ ks.Nodup ∧ Dns c H io S vs us
  | .cl n, v => ∃ C, IW.cls n = some C ∧ v = .ref C
  | .sti ns, v => ∃ a, v = .ref a ∧ H a = some (StI a ns) ∧ ¬ Lv io S a ∧ a ∉ c.hd ∧ ns.Nodup ∧ ns.length < 64
  | .stt nss, v => ∃ a L, v = .ref a ∧ H a = some (SetTO IW.P IW.w a L) ∧ ¬ Lv io S a ∧ a ∉ c.hd ∧ ((∀ k, k ∈ L.map (·.2) ↔ k ∈ nss) ∧ nss.Nodup ∧ nss.length < 64) ∧ ∀ p ∈ L, Tq c.K H p.1 (p.2.map V.int)
  | .ob cl fs vs, v => ∃ a C dx us, v = .ref a ∧ IW.cls cl = some C ∧ H a = some (.ins C dx (fs.zip us)) ∧ ¬ Lv io S a ∧ a ∉ c.hd ∧ us.length = fs.length ∧ Dns c H io S vs us
def Dns (c : Cf) (H : Hp) (io : List Addr) (S : Sto) : List Dv → List V → Prop
  | [], vs => vs = []
  | w :: ws, vs => ∃ v vr, vs = v :: vr ∧ Dn c H io S w v ∧ Dns c H io S ws vr
end
/-- the heap's object u at a is the live thing -/
def Fit (c : Cf) (H : Hp) (io : List Addr) (S : Sto) (a : Addr) : MO → HO → Prop
  | .lst ws, u => ∃ xs, u = .lst xs ∧ xs.length ≤ sizeLine ∧ Dns c H io S ws xs
  | .dct ks vs, u => ∃ xs us, u = DctO a xs ∧ nks ks = some (xs.map (·.1)) ∧ Dns c H io S ks (xs.map fun x => V.ref x.2.1) ∧ Vals us (xs.map (·.2.2)) ∧ Dns c H io S vs us
  | .dck ks vs, u => ∃ us, u = .dK (ks.zip us) ∧ us.length = ks.length ∧ ks.Nodup ∧ Dns c H io S vs us
  | .ob cl fs vs, u => ∃ C dx us, IW.cls cl = some C ∧ u = .ins C dx (fs.zip us) ∧ us.length = fs.length ∧ Dns c H io S vs us
  | .gone, _ => False
theorem Fit.mut {c : Cf} {H : Hp} {io : List Addr} {S : Sto} {a : Addr} {o : MO} {u : HO} (f : Fit c H io S a o u) : o ≠ .gone ∧ (∀ xs, u ≠ .tup xs) ∧ ∀ x y, u ≠ .frz x y := by
  cases o with
  | lst ws => obtain ⟨xs, rfl, _⟩ := f; exact ⟨(fun z => nomatch z), (fun _ z => nomatch z), (fun _ _ z => nomatch z)⟩
  | dct ks vs => obtain ⟨xs, us, rfl, _⟩ := f; exact ⟨(fun z => nomatch z), (fun _ z => nomatch z), (fun _ _ z => nomatch z)⟩
  | dck ks vs => obtain ⟨us, rfl, _⟩ := f; exact ⟨(fun z => nomatch z), (fun _ z => nomatch z), (fun _ _ z => nomatch z)⟩
  | ob cl fs vs => obtain ⟨C, dx, us, _, rfl, _⟩ := f; exact ⟨(fun z => nomatch z), (fun _ z => nomatch z), (fun _ _ z => nomatch z)⟩
  | gone => exact f.elim

structure Kp (c : Cf) (H : Hp) (io : List Addr) (S : Sto) (H' : Hp) (io' : List Addr) (S' : Sto) : Prop where
  tup : ∀ a xs, Tq c.K H a xs → Tq c.K H' a xs
  fx : ∀ a xs, Fx c.K H a xs → Fx c.K H' a xs
  keep : ∀ a o, H a = some o → ¬ Lv io S a → H' a = some o ∧ ¬ Lv io' S' a
  ref : ∀ (n : Nat) a, io[n]? = some a → io'[n]? = some a

section
variable {c : Cf} {H H1 H2 : Hp} {io io1 io2 : List Addr} {S S1 S2 : Sto}
theorem Kp.refl : Kp c H io S H io S := ⟨fun _ _ h => h, fun _ _ h => h, fun _ _ h l => ⟨h, l⟩, fun _ _ h => h⟩
theorem Kp.trans (a : Kp c H io S H1 io1 S1) (b : Kp c H1 io1 S1 H2 io2 S2) : Kp c H io S H2 io2 S2 :=
  ⟨fun x xs h => b.tup x xs (a.tup x xs h), fun x xs h => b.fx x xs (a.fx x xs h), fun x o h l => let ⟨h1, l1⟩ := a.keep x o h l; b.keep x o h1 l1, fun n x h => b.ref n x (a.ref n x h)⟩
mutual
theorem Dn.mono (k : Kp c H io S H1 io1 S1) : ∀ (w : Dv) (v : V), Dn c H io S w v → Dn c H1 io1 S1 w v
  | .non, v, h => h
  | .bl _, v, h => h
  | .int _, v, h => h
  | .str _, v, h => h
  | .ty _, v, h => h
  | .fx _, v, h => h
  | .tup ws, v, h => by
    obtain ⟨a, xs, e, hs, hd⟩ := h
    exact ⟨a, xs, e, k.tup _ _ hs, Dns.mono k ws xs hd⟩
  | .lst ws, v, h => by
    obtain ⟨a, xs, e, h1, h2, h3, hz, hd⟩ := h
    exact ⟨a, xs, e, (k.keep a _ h1 h2).1, (k.keep a _ h1 h2).2, h3, hz, Dns.mono k ws xs hd⟩
  | .kls ws, v, h => by
    obtain ⟨a, xs, e, h1, hd⟩ := h
    exact ⟨a, xs, e, k.fx _ _ h1, Dns.mono k ws xs hd⟩
  | .ref n, v, h => by
    obtain ⟨a, e, h⟩ := h
    exact ⟨a, e, k.ref _ _ h⟩
  | .dct ks vs, v, h => by
    obtain ⟨a, xs, us, e, h1, h2, h3, hn, hk, hv, hd⟩ := h
    exact ⟨a, xs, us, e, (k.keep a _ h1 h2).1, (k.keep a _ h1 h2).2, h3, hn, Dns.mono k ks _ hk, hv, Dns.mono k vs us hd⟩
  | .dck ks vs, v, h => by
    obtain ⟨a, us, e, h1, h2, h3, hl, hn, hd⟩ := h
    exact ⟨a, us, e, (k.keep a _ h1 h2).1, (k.keep a _ h1 h2).2, h3, hl, hn, Dns.mono k vs us hd⟩
  | .cl _, v, h => h
  | .sti ns, v, h => by
    obtain ⟨a, e, h1, h2, h3⟩ := h
    exact ⟨a, e, (k.keep a _ h1 h2).1, (k.keep a _ h1 h2).2, h3⟩
  | .stt nss, v, h => by
    obtain ⟨a, L, e, h1, h2, h3, hp, ht⟩ := h
    exact ⟨a, L, e, (k.keep a _ h1 h2).1, (k.keep a _ h1 h2).2, h3, hp, fun p q => k.tup _ _ (ht p q)⟩
  | .ob cl fs vs, v, h => by
    obtain ⟨a, C, dx, us, e, hc, h1, h2, h3, hl, hd⟩ := h
    exact ⟨a, C, dx, us, e, hc, (k.keep a _ h1 h2).1, (k.keep a _ h1 h2).2, h3, hl, Dns.mono k vs us hd⟩
theorem Dns.mono (k : Kp c H io S H1 io1 S1) : ∀ (ws : List Dv) (vs : List V), Dns c H io S ws vs → Dns c H1 io1 S1 ws vs
  | [], vs, h => h
  | w :: ws, vs, h => by
    obtain ⟨v, vr, e, h1, h2⟩ := h
    exact ⟨v, vr, e, Dn.mono k w v h1, Dns.mono k ws vr h2⟩
end
theorem Fit.mono (k : Kp c H io S H1 io1 S1) {a : Addr} {o : MO} {u : HO} (f : Fit c H io S a o u) : Fit c H1 io1 S1 a o u := by
  cases o with
  | lst ws => obtain ⟨xs, e, hz, d⟩ := f; exact ⟨xs, e, hz, Dns.mono k _ _ d⟩
  | dct ks vs => obtain ⟨xs, us, e, hn, hk, hv, hd⟩ := f; exact ⟨xs, us, e, hn, Dns.mono k _ _ hk, hv, Dns.mono k _ _ hd⟩
  | dck ks vs => obtain ⟨us, e, hl, hn, hd⟩ := f; exact ⟨us, e, hl, hn, Dns.mono k _ _ hd⟩
  | ob cl fs vs => obtain ⟨C, dx, us, hc, e, hl, hd⟩ := f; exact ⟨C, dx, us, hc, e, hl, Dns.mono k _ _ hd⟩
  | gone => exact f
theorem Dns.length : ∀ {ws : List Dv} {vs : List V}, Dns c H io S ws vs → vs.length = ws.length
  | [], vs, h => by
    have e : vs = [] := h
    rw [e]; rfl
  | w :: ws, vs, h => by
    obtain ⟨v, vr, e, _, h2⟩ := h
    rw [e, List.length_cons, List.length_cons, Dns.length h2]
theorem Dns.get : ∀ {ws : List Dv} {vs : List V} {i : Nat} {w : Dv}, Dns c H io S ws vs → ws[i]? = some w → ∃ v, vs[i]? = some v ∧ Dn c H io S w v
  | [], _, _, _, _, e => by simp at e
  | w :: ws, vs, 0, w', h, e => by
    obtain ⟨v, vr, rfl, h1, _⟩ := h
    simp at e; subst e
    exact ⟨v, rfl, h1⟩
  | w :: ws, vs, i + 1, w', h, e => by
    obtain ⟨v, vr, rfl, _, h2⟩ := h
    simpa using Dns.get (i := i) h2 (by simpa using e)
theorem Dns.getV : ∀ {ws : List Dv} {vs : List V} {i : Nat} {v : V}, Dns c H io S ws vs → vs[i]? = some v → ∃ w, ws[i]? = some w ∧ Dn c H io S w v := fun {ws vs i v} h e => by
  have hl := h.length
  have hi : i < vs.length := (List.getElem?_eq_some_iff.mp e).1
  have hi' : i < ws.length := by omega
  obtain ⟨v', e', d⟩ := h.get (List.getElem?_eq_getElem hi')
  rw [e] at e'; cases e'
  exact ⟨_, List.getElem?_eq_getElem hi', d⟩
theorem Dns.append : ∀ {ws ws' : List Dv} {vs vs' : List V}, Dns c H io S ws vs → Dns c H io S ws' vs' → Dns c H io S (ws ++ ws') (vs ++ vs')
  | [], ws', vs, vs', h, h' => by
    have e : vs = [] := h
    rw [e]; exact h'
  | w :: ws, ws', vs, vs', h, h' => by
    obtain ⟨v, vr, rfl, h1, h2⟩ := h
    exact ⟨v, vr ++ vs', rfl, h1, h2.append h'⟩
theorem Dns.take : ∀ {ws : List Dv} {vs : List V} (n : Nat), Dns c H io S ws vs → Dns c H io S (ws.take n) (vs.take n)
  | _, _, 0, _ => by show Dns c H io S [] (List.take 0 _); exact List.take_zero
  | [], vs, n + 1, h => by
    have e : vs = [] := h
    rw [e]; rfl
  | w :: ws, vs, n + 1, h => by
    obtain ⟨v, vr, rfl, h1, h2⟩ := h
    exact ⟨v, vr.take n, rfl, h1, h2.take n⟩
theorem Dns.drop : ∀ {ws : List Dv} {vs : List V} (n : Nat), Dns c H io S ws vs → Dns c H io S (ws.drop n) (vs.drop n)
  | _, _, 0, h => h
  | [], vs, n + 1, h => by
    have e : vs = [] := h
    rw [e]; rfl
  | w :: ws, vs, n + 1, h => by
    obtain ⟨v, vr, rfl, h1, h2⟩ := h
    exact h2.drop n
theorem Dns.set : ∀ {ws : List Dv} {vs : List V} {w : Dv} {v : V} (n : Nat), Dns c H io S ws vs → Dn c H io S w v → Dns c H io S (ws.set n w) (vs.set n v)
  | [], vs, _, _, _, h, _ => by
    have e : vs = [] := h
    rw [e]; rfl
  | w :: ws, vs, w', v', 0, h, d => by
    obtain ⟨v, vr, rfl, h1, h2⟩ := h
    exact ⟨v', vr, rfl, d, h2⟩
  | w :: ws, vs, w', v', n + 1, h, d => by
    obtain ⟨v, vr, rfl, h1, h2⟩ := h
    exact ⟨v, vr.set n v', rfl, h1, h2.set n d⟩
theorem Dns.rep {ws : List Dv} {vs : List V} (h : Dns c H io S ws vs) : ∀ n : Nat, Dns c H io S (List.replicate n ws).flatten (List.replicate n vs).flatten
  | 0 => by simp [Dns]
  | n + 1 => by
    rw [List.replicate_succ, List.replicate_succ, List.flatten_cons, List.flatten_cons]
    exact h.append (h.rep n)
end

/-! ## the state -/
structure Rst (c : Cf) (H : Hp) (io : List Addr) (S : Sto) : Prop where
  len : io.length = S.length
  nd : io.Nodup
  trk : ∀ a ∈ io, H a ≠ none
  hid : ∀ a ∈ c.hd, H a ≠ none ∧ a ∉ io
  fit : ∀ (n : Nat) o, S[n]? = some o → o ≠ .gone → ∃ a u, io[n]? = some a ∧ H a = some u ∧ Fit c H io S a o u

section
variable {c : Cf} {H H1 H2 : Hp} {io io1 io2 : List Addr} {S S1 S2 : Sto}
theorem Rst.obj (r : Rst c H io S) : ∀ (n : Nat) ws, S[n]? = some (.lst ws) → ∃ a xs, io[n]? = some a ∧ H a = some (.lst xs) ∧ xs.length ≤ sizeLine ∧ Dns c H io S ws xs := fun n ws s => by
  obtain ⟨a, u, e, h, xs, rfl, hz, d⟩ := r.fit n _ s (fun z => nomatch z)
  exact ⟨a, xs, e, h, hz, d⟩
theorem Rst.lv (r : Rst c H io S) {a : Addr} (l : Lv io S a) : ∃ u, H a = some u ∧ (∀ xs, u ≠ .tup xs) ∧ ∀ x y, u ≠ .frz x y := by
  obtain ⟨n, o, e, s, ho⟩ := l
  obtain ⟨b, u, e', h, f⟩ := r.fit n o s ho
  rw [e] at e'; cases e'
  exact ⟨u, h, f.mut.2⟩
theorem io_inj (nd : io.Nodup) {m n : Nat} {a : Addr} (h1 : io[m]? = some a) (h2 : io[n]? = some a) : m = n := by
  obtain ⟨l1, e1⟩ := List.getElem?_eq_some_iff.mp h1
  obtain ⟨l2, e2⟩ := List.getElem?_eq_some_iff.mp h2
  exact (List.getElem_inj nd).mp (e1.trans e2.symm)
/-- a new object, no part of the store -/
theorem Kp.fresh {p : Addr} {o : HO} (hp : H p = none) : Kp c H io S (upd H p o) io S := by
  refine ⟨fun a xs h => h.mv fun h => by rw [upd_ne (ne_of_none h hp)]; exact h, fun a xs h => h.mv fun o' h => by rw [upd_ne (ne_of_none h hp)]; exact h, fun a o' h l => ⟨?_, l⟩, fun _ _ h => h⟩
  · rw [upd_ne (ne_of_none h hp)]; exact h
theorem Rst.fresh (r : Rst c H io S) {p : Addr} {o : HO} (hp : H p = none) : Rst c (upd H p o) io S := by
  refine ⟨r.len, r.nd, fun a ha => ?_, fun a ha => ⟨?_, (r.hid a ha).2⟩, fun n o' s ho => ?_⟩
  · by_cases e : a = p
    · subst e; rw [upd_same]; exact fun z => nomatch z
    · rw [upd_ne e]; exact r.trk a ha
  · by_cases e : a = p
    · subst e; rw [upd_same]; exact fun z => nomatch z
    · rw [upd_ne e]; exact (r.hid a ha).1
  · obtain ⟨a, u, e, h, f⟩ := r.fit n o' s ho
    exact ⟨a, u, e, by rw [upd_ne (ne_of_none h hp)]; exact h, f.mono (Kp.fresh hp)⟩
theorem not_lv_fresh (r : Rst c H io S) {p : Addr} (hp : H p = none) : ¬ Lv io S p := fun l => by
  obtain ⟨u, h, _⟩ := r.lv l
  rw [hp] at h; cases h
theorem not_hd_fresh (r : Rst c H io S) {p : Addr} (hp : H p = none) : p ∉ c.hd := fun l => (r.hid p l).1 hp
/-- a new thing, put into the store -/
theorem Kp.allocO (r : Rst c H io S) {p : Addr} {u : HO} {o : MO} (hp : H p = none) : Kp c H io S (upd H p u) (io ++ [p]) (S ++ [o]) := by
  have k : Kp c H io S (upd H p u) io S := Kp.fresh hp
  refine ⟨k.tup, k.fx, fun a o' h l => ⟨(k.keep a o' h l).1, ?_⟩, fun n a h => ?_⟩
  · rintro ⟨n, ws', e1, e2, e3⟩
    by_cases hn : n < io.length
    · rw [List.getElem?_append_left hn] at e1
      rw [List.getElem?_append_left (by rw [← r.len]; exact hn)] at e2
      exact l ⟨n, ws', e1, e2, e3⟩
    · rw [List.getElem?_append_right (by omega)] at e1
      have ea : a = p := by
        cases hz : n - io.length with
        | zero => rw [hz] at e1; simpa using e1.symm
        | succ m => rw [hz] at e1; simp at e1
      subst ea
      rw [hp] at h; cases h
  · have hn : n < io.length := (List.getElem?_eq_some_iff.mp h).1
    rw [List.getElem?_append_left hn]; exact h
theorem Rst.allocO (r : Rst c H io S) {p : Addr} {u : HO} {o : MO} (hp : H p = none) (f : Fit c H io S p o u) : Rst c (upd H p u) (io ++ [p]) (S ++ [o]) := by
  have r' := r.fresh (o := u) hp
  have k := Kp.allocO (u := u) (o := o) r hp
  refine ⟨by simp [r.len], ?_, fun a ha => ?_, fun a ha => ⟨(r'.hid a ha).1, fun z => ?_⟩, fun n o' s ho => ?_⟩
  · refine List.nodup_append.mpr ⟨r.nd, by simp, fun a ha b hb => ?_⟩
    have eb : b = p := by simpa using hb
    subst eb
    intro e; subst e
    exact r.trk a ha hp
  · rcases List.mem_append.mp ha with z | z
    · exact r'.trk a z
    · have e : a = p := by simpa using z
      subst e; rw [upd_same]; exact fun z => nomatch z
  · rcases List.mem_append.mp z with z | z
    · exact (r'.hid a ha).2 z
    · have e : a = p := by simpa using z
      subst e
      exact (r.hid a ha).1 hp
  · by_cases hn : n < S.length
    · rw [List.getElem?_append_left hn] at s
      obtain ⟨a, y, e, h, d'⟩ := r.fit n o' s ho
      exact ⟨a, y, k.ref n a e, by rw [upd_ne (ne_of_none h hp)]; exact h, d'.mono k⟩
    · rw [List.getElem?_append_right (by omega)] at s
      have hz' : n = S.length := by
        cases q : n - S.length with
        | zero => omega
        | succ m => rw [q] at s; simp at s
      subst hz'
      simp at s
      subst s
      exact ⟨p, u, by rw [← r.len]; simp, upd_same, f.mono k⟩
theorem Kp.alloc (r : Rst c H io S) {p : Addr} {xs : List V} {ws : List Dv} (hp : H p = none) : Kp c H io S (upd H p (.lst xs)) (io ++ [p]) (S ++ [.lst ws]) := Kp.allocO r hp
theorem Rst.alloc (r : Rst c H io S) {p : Addr} {xs : List V} {ws : List Dv} (hp : H p = none) (d : Dns c H io S ws xs) (hz : xs.length ≤ sizeLine) : Rst c (upd H p (.lst xs)) (io ++ [p]) (S ++ [.lst ws]) := r.allocO hp ⟨xs, rfl, hz, d⟩
/-- a thing of the store is changed -/
theorem lv_setO {n : Nat} {o o' : MO} (s : S[n]? = some o) (ho : o ≠ .gone) (ho' : o' ≠ .gone) {a : Addr} : Lv io (S.set n o') a ↔ Lv io S a := by
  have hn : n < S.length := (List.getElem?_eq_some_iff.mp s).1
  constructor
  · rintro ⟨m, w, e, z, q⟩
    by_cases hm : n = m
    · subst hm; exact ⟨n, o, e, s, ho⟩
    · rw [List.getElem?_set_ne hm] at z; exact ⟨m, w, e, z, q⟩
  · rintro ⟨m, w, e, z, q⟩
    by_cases hm : n = m
    · subst hm; exact ⟨n, o', e, List.getElem?_set_self hn, ho'⟩
    · exact ⟨m, w, e, by rw [List.getElem?_set_ne hm]; exact z, q⟩
theorem Kp.putO (r : Rst c H io S) {n : Nat} {a : Addr} {o o' : MO} {u : HO} (s : S[n]? = some o) (ho : o ≠ .gone) (ho' : o' ≠ .gone) (e : io[n]? = some a) : Kp c H io S (upd H a u) io (S.set n o') := by
  have la : Lv io S a := ⟨n, o, e, s, ho⟩
  obtain ⟨y, ha, m1, m2⟩ := r.lv la
  refine ⟨fun b xs h => h.mv fun h => by rw [upd_ne (ne_of h ha (fun z => m1 _ z.symm))]; exact h, fun b xs h => h.mv fun o' h => by rw [upd_ne (ne_of h ha (fun z => m2 _ _ z.symm))]; exact h, fun b o h l => ⟨?_, fun z => l ((lv_setO s ho ho').mp z)⟩, fun _ _ h => h⟩
  · have nb : b ≠ a := fun z => l (z ▸ la)
    rw [upd_ne nb]; exact h
theorem Rst.putO (r : Rst c H io S) {n : Nat} {a : Addr} {o o' : MO} {u : HO} (s : S[n]? = some o) (ho : o ≠ .gone) (e : io[n]? = some a) (f : Fit c H io S a o' u) : Rst c (upd H a u) io (S.set n o') := by
  have hn : n < S.length := (List.getElem?_eq_some_iff.mp s).1
  have k := Kp.putO (o' := o') (u := u) r s ho f.mut.1 e
  refine ⟨by rw [List.length_set]; exact r.len, r.nd, fun b hb => ?_, fun b hb => ⟨?_, (r.hid b hb).2⟩, fun m w z hw => ?_⟩
  · by_cases q : b = a
    · subst q; rw [upd_same]; exact fun z => nomatch z
    · rw [upd_ne q]; exact r.trk b hb
  · by_cases q : b = a
    · subst q; rw [upd_same]; exact fun z => nomatch z
    · rw [upd_ne q]; exact (r.hid b hb).1
  · by_cases hm : n = m
    · subst hm
      rw [List.getElem?_set_self hn] at z
      cases z
      exact ⟨a, u, e, upd_same, f.mono k⟩
    · rw [List.getElem?_set_ne hm] at z
      obtain ⟨b, y, e', h, d'⟩ := r.fit m w z hw
      have nb : b ≠ a := fun q => hm (io_inj r.nd e (q ▸ e'))
      exact ⟨b, y, e', by rw [upd_ne nb]; exact h, d'.mono k⟩
theorem Kp.put (r : Rst c H io S) {n : Nat} {a : Addr} {ws ws' : List Dv} {xs' : List V} (s : S[n]? = some (.lst ws)) (e : io[n]? = some a) : Kp c H io S (upd H a (.lst xs')) io (S.set n (.lst ws')) := Kp.putO r s (fun z => nomatch z) (fun z => nomatch z) e
theorem Rst.put (r : Rst c H io S) {n : Nat} {a : Addr} {ws ws' : List Dv} {xs' : List V} (s : S[n]? = some (.lst ws)) (e : io[n]? = some a) (d : Dns c H io S ws' xs') (hz : xs'.length ≤ sizeLine) : Rst c (upd H a (.lst xs')) io (S.set n (.lst ws')) := r.putO s (fun z => nomatch z) e ⟨xs', rfl, hz, d⟩
/-- a thing of the store is no longer changed -/
theorem lv_gone {n : Nat} {a : Addr} (l : Lv io (S.set n .gone) a) : Lv io S a := by
  obtain ⟨m, w, e, z, q⟩ := l
  by_cases hm : n = m
  · subst hm
    by_cases hn : n < S.length
    · rw [List.getElem?_set_self hn] at z; cases z; exact absurd rfl q
    · rw [List.set_eq_of_length_le (by omega)] at z; exact ⟨n, w, e, z, q⟩
  · rw [List.getElem?_set_ne hm] at z; exact ⟨m, w, e, z, q⟩
theorem Kp.gone {n : Nat} : Kp c H io S H io (S.set n .gone) :=
  ⟨fun _ _ h => h, fun _ _ h => h, fun _ _ h l => ⟨h, fun z => l (lv_gone z)⟩, fun _ _ h => h⟩
theorem Rst.gone (r : Rst c H io S) {n : Nat} : Rst c H io (S.set n .gone) := by
  refine ⟨by rw [List.length_set]; exact r.len, r.nd, r.trk, r.hid, fun m w z hw => ?_⟩
  by_cases hm : n = m
  · subst hm
    by_cases hn : n < S.length
    · rw [List.getElem?_set_self hn] at z; cases z; exact absurd rfl hw
    · rw [List.set_eq_of_length_le (by omega)] at z
      obtain ⟨a, u, e, h, d⟩ := r.fit n w z hw
      exact ⟨a, u, e, h, d.mono Kp.gone⟩
  · rw [List.getElem?_set_ne hm] at z
    obtain ⟨a, u, e, h, d⟩ := r.fit m w z hw
    exact ⟨a, u, e, h, d.mono Kp.gone⟩
theorem gone_not (r : Rst c H io S) {n : Nat} {a : Addr} {o : MO} (s : S[n]? = some o) (e : io[n]? = some a) : ¬ Lv io (S.set n .gone) a ∧ a ∉ c.hd := by
  refine ⟨?_, fun z => (r.hid a z).2 (List.mem_of_getElem? e)⟩
  rintro ⟨m, w, e', z, q⟩
  have hm : n = m := io_inj r.nd e e'
  subst hm
  rw [List.getElem?_set_self (List.getElem?_eq_some_iff.mp s).1] at z
  cases z
  exact q rfl
theorem gone_lst (r : Rst c H io S) {n : Nat} {a : Addr} {ws : List Dv} {xs : List V} (s : S[n]? = some (.lst ws)) (e : io[n]? = some a) (h : H a = some (.lst xs)) (hz : xs.length ≤ sizeLine) (d : Dns c H io S ws xs) : Dn c H io (S.set n .gone) (.lst ws) (.ref a) :=
  ⟨a, xs, rfl, h, (gone_not r s e).1, (gone_not r s e).2, hz, Dns.mono Kp.gone _ _ d⟩
/-- the frozen form -/
def MO.fz : MO → Option Dv
  | .lst ws => some (.lst ws)
  | .dct ks vs => some (.dct ks vs)
  | .dck ks vs => some (.dck ks vs)
  | .ob cl fs vs => some (.ob cl fs vs)
  | .gone => none
theorem gone_fz (r : Rst c H io S) {n : Nat} {a : Addr} {o : MO} {w : Dv} (s : S[n]? = some o) (hw : o.fz = some w) (e : io[n]? = some a) : Dn c H io (S.set n .gone) w (.ref a) := by
  have ho : o ≠ .gone := fun z => by subst z; cases hw
  obtain ⟨b, u, e', h, f⟩ := r.fit n o s ho
  rw [e] at e'; cases e'
  obtain ⟨g1, g2⟩ := gone_not r s e
  have k : Kp c H io S H io (S.set n .gone) := Kp.gone
  have f' := f.mono k
  cases o with
  | lst ws => cases hw; obtain ⟨xs, rfl, hz, d⟩ := f'; exact ⟨a, xs, rfl, h, g1, g2, hz, d⟩
  | dct ks vs => cases hw; obtain ⟨xs, us, rfl, hn, hk, hv, hd⟩ := f'; exact ⟨a, xs, us, rfl, h, g1, g2, hn, hk, hv, hd⟩
  | dck ks vs => cases hw; obtain ⟨us, rfl, hl, hn, hd⟩ := f'; exact ⟨a, us, rfl, h, g1, g2, hl, hn, hd⟩
  | ob cl fs vs => cases hw; obtain ⟨C, dx, us, hc, rfl, hl, hd⟩ := f'; exact ⟨a, C, dx, us, rfl, hc, h, g1, g2, hl, hd⟩
  | gone => cases hw
end

section
variable {c : Cf} {H H1 H2 : Hp} {io io1 io2 : List Addr} {S S1 S2 : Sto}
theorem new_tup {p : Addr} {ws : List Dv} {xs : List V} (hp : H p = none) (d : Dns c H io S ws xs) : Dn c (upd H p (.tup xs)) io S (.tup ws) (.ref p) :=
  ⟨p, xs, rfl, .inl upd_same, Dns.mono (Kp.fresh hp) _ _ d⟩
theorem new_lst (r : Rst c H io S) {p : Addr} {ws : List Dv} {xs : List V} (hp : H p = none) (hz : xs.length ≤ sizeLine) (d : Dns c H io S ws xs) : Dn c (upd H p (.lst xs)) io S (.lst ws) (.ref p) :=
  ⟨p, xs, rfl, upd_same, not_lv_fresh r hp, not_hd_fresh r hp, hz, Dns.mono (Kp.fresh hp) _ _ d⟩
def stL (S : Sto) (n : Nat) : Option (List Dv) := match S[n]? with
  | some (.lst ws) => some ws
  | _ => none
theorem stL_some {n : Nat} {ws : List Dv} (h : stL S n = some ws) : S[n]? = some (.lst ws) := by
  unfold stL at h
  split at h
  · rename_i us hs
    cases h; exact hs
  · cases h
theorem stL_of {n : Nat} {ws : List Dv} (h : S[n]? = some (.lst ws)) : stL S n = some ws := by
  unfold stL; rw [h]
/-- the items of a list, frozen or live -/
def lsV (S : Sto) : Dv → Option (List Dv)
  | .lst ws => some ws
  | .ref n => stL S n
  | _ => none
theorem lsV_at (r : Rst c H io S) {w : Dv} {v : V} {ws : List Dv} (d : Dn c H io S w v) (h : lsV S w = some ws) : ∃ a xs, v = .ref a ∧ H a = some (.lst xs) ∧ xs.length ≤ sizeLine ∧ Dns c H io S ws xs := by
  cases w with
  | lst us =>
    cases h
    obtain ⟨a, xs, e, h1, _, _, hz, hd⟩ := d
    exact ⟨a, xs, e, h1, hz, hd⟩
  | ref n =>
    obtain ⟨a, e, hn⟩ := d
    obtain ⟨b, xs, e', h1, hz, hd⟩ := r.obj n _ (stL_some h)
    rw [hn] at e'; cases e'
    exact ⟨a, xs, e, h1, hz, hd⟩
  | _ => cases h
/-- the items of a list or a tuple of any kind -/
def sqV (S : Sto) : Dv → Option (List Dv)
  | .tup ws => some ws
  | .kls ws => some ws
  | w => lsV S w
theorem sqV_at (r : Rst c H io S) {w : Dv} {v : V} {ws : List Dv} (d : Dn c H io S w v) (h : sqV S w = some ws) : ∃ a xs, v = .ref a ∧ (SqL c.K H a xs ∨ SqT c.K H a xs) ∧ Dns c H io S ws xs := by
  cases w with
  | tup us =>
    cases h
    obtain ⟨a, xs, e, h1, hd⟩ := d
    exact ⟨a, xs, e, .inr h1.sq, hd⟩
  | kls us =>
    cases h
    obtain ⟨a, xs, e, h1, hd⟩ := d
    exact ⟨a, xs, e, .inl h1.sq, hd⟩
  | lst us =>
    obtain ⟨a, xs, e, h1, _, hd⟩ := lsV_at r d h
    exact ⟨a, xs, e, .inl (.of h1), hd⟩
  | ref n =>
    obtain ⟨a, xs, e, h1, _, hd⟩ := lsV_at r d h
    exact ⟨a, xs, e, .inl (.of h1), hd⟩
  | _ => cases h
end

/-! ## programs over data -/
abbrev M (α : Type) := Sto → Option (α × Sto)
def M.ret {α : Type} (a : α) : M α := fun S => some (a, S)
def M.no {α : Type} : M α := fun _ => none
def M.bind {α β : Type} (m : M α) (f : α → M β) : M β := fun S => match m S with
  | some (a, S') => f a S'
  | none => none
theorem M.bind_some {α β : Type} {m : M α} {f : α → M β} {S S'' : Sto} {b : β} (h : M.bind m f S = some (b, S'')) : ∃ a S', m S = some (a, S') ∧ f a S' = some (b, S'') := by
  unfold M.bind at h
  split at h
  · rename_i a S' e
    exact ⟨a, S', e, h⟩
  · cases h
theorem M.bind_of {α β : Type} {m : M α} {f : α → M β} {S S' : Sto} {a : α} (h : m S = some (a, S')) : M.bind m f S = f a S' := by
  unfold M.bind; rw [h]
theorem M.ret_some {α : Type} {a b : α} {S S' : Sto} (h : M.ret a S = some (b, S')) : b = a ∧ S' = S := by
  unfold M.ret at h
  cases h
  exact ⟨rfl, rfl⟩

def EnOk (c : Cf) (H : Hp) (io : List Addr) (S : Sto) (env : En) (σ : L2.St) : Prop :=
  env.length = σ.length ∧ ∀ (i : Nat) (w : Dv), env[i]? = some (some w) → ∃ v, σ[i]? = some (some v) ∧ Dn c H io S w v
theorem EnOk.mono {c : Cf} {H H1 : Hp} {io io1 : List Addr} {S S1 : Sto} {env : En} {σ : L2.St} (e : EnOk c H io S env σ) (k : Kp c H io S H1 io1 S1) : EnOk c H1 io1 S1 env σ :=
  ⟨e.1, fun i w h => let ⟨v, h1, h2⟩ := e.2 i w h; ⟨v, h1, Dn.mono k w v h2⟩⟩
theorem EnOk.set {c : Cf} {H : Hp} {io : List Addr} {S : Sto} {env : En} {σ : L2.St} (e : EnOk c H io S env σ) {i : Nat} {w : Dv} {v : V} (d : Dn c H io S w v) : EnOk c H io S (env.set i (some w)) (σ.set i (some v)) := by
  refine ⟨by rw [List.length_set, List.length_set]; exact e.1, fun j w' h => ?_⟩
  by_cases hj : i = j
  · subst hj
    by_cases hi : i < env.length
    · rw [List.getElem?_set_self hi] at h
      cases h
      exact ⟨v, List.getElem?_set_self (by rw [← e.1]; exact hi), d⟩
    · rw [List.set_eq_of_length_le (by omega)] at h
      have : i < env.length := (List.getElem?_eq_some_iff.mp h).1
      omega
  · rw [List.getElem?_set_ne hj] at h
    rw [List.getElem?_set_ne hj]
    exact e.2 j w' h
theorem EnOk.drop {c : Cf} {H : Hp} {io : List Addr} {S : Sto} {env : En} {σ : L2.St} (e : EnOk c H io S env σ) {i : Nat} {v : Option V} : EnOk c H io S (env.set i none) (σ.set i v) := by
  refine ⟨by rw [List.length_set, List.length_set]; exact e.1, fun j w' h => ?_⟩
  by_cases hj : i = j
  · subst hj
    by_cases hi : i < env.length
    · rw [List.getElem?_set_self hi] at h
      cases h
    · rw [List.set_eq_of_length_le (by omega)] at h
      have : i < env.length := (List.getElem?_eq_some_iff.mp h).1
      omega
  · rw [List.getElem?_set_ne hj] at h
    rw [List.getElem?_set_ne hj]
    exact e.2 j w' h

/-- what is wanted of a value and what stands behind it -/
def Post (c : Cf) (H : Hp) (io : List Addr) (S : Sto) (w : Dv) (S' : Sto) (Q : VK) : Prop :=
  ∀ v H' io', Kp c H io S H' io' S' → Rst c H' io' S' → Dn c H' io' S' w v → Q v H'
def PostB (c : Cf) (H : Hp) (io : List Addr) (S S' : Sto) (Q : Hp → Prop) : Prop :=
  ∀ H' io', Kp c H io S H' io' S' → Rst c H' io' S' → Q H'
def tD (K : PySem.W.Frag) (m : En → M Dv) : TE := fun σ H Q => ∃ hd env S io w S', Rst ⟨K, hd⟩ H io S ∧ EnOk ⟨K, hd⟩ H io S env σ ∧ m env S = some (w, S') ∧ Post ⟨K, hd⟩ H io S w S' Q
def tDT (K : PySem.W.Frag) (m : En → M Bool) : TT := fun σ H Q => ∃ hd env S io b S', Rst ⟨K, hd⟩ H io S ∧ EnOk ⟨K, hd⟩ H io S env σ ∧ m env S = some (b, S') ∧ PostB ⟨K, hd⟩ H io S S' (Q b)
def tDA (K : PySem.W.Frag) (m : En → M (List Dv)) : TA := fun σ H Q => ∃ hd env S io ws S', Rst ⟨K, hd⟩ H io S ∧ EnOk ⟨K, hd⟩ H io S env σ ∧ m env S = some (ws, S') ∧
  ∀ vs H' io', Kp ⟨K, hd⟩ H io S H' io' S' → Rst ⟨K, hd⟩ H' io' S' → Dns ⟨K, hd⟩ H' io' S' ws vs → Q vs H'
abbrev ED (X : Cx) (e : Expr) (m : En → M Dv) : Prop := PE X e (tD X.K m)
abbrev TD (X : Cx) (e : Expr) (m : En → M Bool) : Prop := PT X e (tDT X.K m)
abbrev AD (X : Cx) (es : List Expr) (m : En → M (List Dv)) : Prop := PA X es (tDA X.K m)
section
variable {X : Cx} {e : Expr}
theorem ed_of {t : TE} {m : En → M Dv} (h : PE X e t) (q : ∀ σ H Q, tD X.K m σ H Q → t σ H Q) : ED X e m := ⟨fun pins s σ H Q I hq => h.run pins s σ H Q I (q σ H Q hq)⟩
theorem td_of {t : TT} {m : En → M Bool} (h : PT X e t) (q : ∀ σ H Q, tDT X.K m σ H Q → t σ H Q) : TD X e m := ⟨fun pins s σ H Q I hq => h.run pins s σ H Q I (q σ H Q hq)⟩
theorem ad_of {es : List Expr} {t : TA} {m : En → M (List Dv)} (h : PA X es t) (q : ∀ σ H Q, tDA X.K m σ H Q → t σ H Q) : AD X es m := ⟨fun pos pins s σ H Q I hq => h.run pos pins s σ H Q I (q σ H Q hq)⟩
theorem Post.self {c : Cf} {H : Hp} {io : List Addr} {S : Sto} {w : Dv} {Q : VK} (p : Post c H io S w S Q) (r : Rst c H io S) {v : V} (d : Dn c H io S w v) : Q v H := p v H io Kp.refl r d
theorem Post.after {c : Cf} {H H1 : Hp} {io io1 : List Addr} {S S1 S' : Sto} {w : Dv} {Q : VK} (p : Post c H io S w S' Q) (k : Kp c H io S H1 io1 S1) : Post c H1 io1 S1 w S' Q :=
  fun v H' io' k' r d => p v H' io' (k.trans k') r d
/-- another program with the same ends -/
theorem ED.cong {m m' : En → M Dv} (h : ED X e m) (q : ∀ env S, m' env S = m env S) : ED X e m' := by
  have : m' = m := funext fun env => funext fun S => q env S
  rw [this]; exact h
end
end DD
namespace DD
open PySem PySem.Spec PyProof.Rows L2
variable [IW : HasW]
theorem mul_same (l : Addr) (its : Array Value) (n : Nat) (dd : Option Addr) (sl : Array (Option Value)) (k : Int) (t : Tok) (in63 : (decide (k < -(2 ^ 63)) || decide (k ≥ 2 ^ 63)) = false) (same : (its.isEmpty || k == 1) = true) :
    Meets (Builtin.«tuple.__mul__» ⟨[.ref l, .int k t], []⟩) (fun _ R s => s.heap.get? l = some { cls := .type "tuple", dict := dd, data := .seq its n, slots := sl } ∧ R (.ok (.ret (.ref l))) s) :=
  .of_wp fun prog w A R s h => by
    obtain ⟨hp, g, d, tk, os⟩ := s
    obtain ⟨hl, h⟩ := h
    have f1 := AutoSeq1.idx_int
    wp_walk using wpAny_loadPart' hl
    refine wpAny_ite_false (decide_eq_false (by rw [in63]; exact Bool.false_ne_true)) ?_
    wp_walk using wpAny_loadPart' hl
    exact ⟨_, rfl, h⟩
theorem mul_none (l : Addr) (its : Array Value) (n : Nat) (dd : Option Addr) (sl : Array (Option Value)) (k : Int) (t : Tok) (in63 : (decide (k < -(2 ^ 63)) || decide (k ≥ 2 ^ 63)) = false) (other : (its.isEmpty || k == 1) = false) (none_ : (decide (k ≤ 0) || its.isEmpty) = true) :
    Meets (Builtin.«tuple.__mul__» ⟨[.ref l, .int k t], []⟩) (fun _ R s => s.heap.get? l = some { cls := .type "tuple", dict := dd, data := .seq its n, slots := sl } ∧ R (.ok (.ret (.ref s.heap.objs.size))) { s with heap := s.heap.push { cls := .type "tuple", data := .seq #[] } }) :=
  .of_wp fun prog w A R s h => by
    obtain ⟨hp, g, d, tk, os⟩ := s
    obtain ⟨hl, h⟩ := h
    have f1 := AutoSeq1.idx_int
    wp_walk using wpAny_loadPart' hl
    repeat (first
      | (refine wpAny_ite_false (decide_eq_false (by rw [in63]; exact Bool.false_ne_true)) ?_; wp_walk using wpAny_loadPart' hl)
      | (refine wpAny_ite_false (decide_eq_false (by rw [other]; exact Bool.false_ne_true)) ?_; wp_walk using wpAny_loadPart' hl)
      | (refine wpAny_ite_true (decide_eq_true none_) ?_; wp_walk using wpAny_loadPart' hl))
    exact ⟨_, rfl, h⟩
section
variable {X : Cx}
/-- tuple * int of any sign -/
def rRepAny (K : PySem.W.Frag) : R2 := fun x y H Q => ∃ l k xs, x = .ref l ∧ y = .int k ∧ SqT K H l xs ∧ -(2 ^ 63) ≤ k ∧ k < 2 ^ 63 ∧ (xs = [] ∨ k ≤ 1 ∨ (k ≤ 1000 ∧ xs.length ≤ 1000)) ∧
  (xs = [] ∨ k = 1 → Q (.ref l) H) ∧ (¬ (xs = [] ∨ k = 1) → ∀ p, H p = none → Q (.ref p) (upd H p (.tup (List.replicate k.toNat xs).flatten)))
theorem op_repAny : OpR X (binaryOp .Mult) (rRepAny X.K) := by
  intro pins s σ H x y v u Q I rx ry h
  obtain ⟨l, k, xs, rfl, rfl, hT, b1, b2, hz, q1, q2⟩ := h
  by_cases big : xs ≠ [] ∧ 2 ≤ k
  · have hz' : k ≤ 1000 ∧ xs.length ≤ 1000 := by
      rcases hz with z | z | z
      · exact absurd z big.1
      · omega
      · exact z
    exact op_repT pins s σ H _ _ v u Q I rx ry ⟨l, k, xs, rfl, rfl, hT, big.1, big.2, hz'.1, hz'.2, q2 (fun z => by rcases z with z | z; exact big.1 z; omega)⟩
  · have rx : v = Value.ref l := rx
    subst rx
    obtain ⟨t, rfl⟩ := ry
    obtain ⟨its, r, ⟨⟨cls, dd, data, sl⟩, ho, hc, n, hd⟩, hs⟩ := I.tuple hT
    simp only at hc hd
    subst hc hd
    have hlen : its.length = xs.length := r.length.symm
    have in63 : (decide (k < -(2 ^ 63)) || decide (k ≥ 2 ^ 63)) = false := by
      rw [decide_eq_false (by omega), decide_eq_false (by omega)] <;> rfl
    have emp : its.toArray.isEmpty = xs.isEmpty := by
      cases its with
      | nil => cases xs with
        | nil => rfl
        | cons a b => cases hlen
      | cons a b => cases xs with
        | nil => cases hlen
        | cons c d => rfl
    refine wpAny_binaryOp_repeat_ref (T := "tuple") (U := "int") (by decide) ⟨_, ho, rfl⟩ (fun s' => typeIs_int s' k t) noFill_tuple_mul F.fills_int_mul F.slot_int_rmul repeat_tuple F.slot_int_index.lookup
      (call_meets F.slot_int_rmul (typeIs_int s k t) F.entry_int_rmul (F.args_int_rmul_2 _ _) (int_rmul_tuple k t l its.toArray n dd sl) ⟨ho, rfl, ⟨_, ho, rfl⟩, ?_⟩)
    by_cases same : xs = [] ∨ k = 1
    · have c1 : (its.toArray.isEmpty || k == 1) = true := by
        rw [emp]
        rcases same with z | z
        · rw [z]; rfl
        · rw [z]; simp
      exact call_meets F.slot_tuple_mul ⟨_, ho, rfl⟩ F.entry_tuple_mul (F.args_tuple_mul_2 _ _) (mul_same l its.toArray n dd sl k t in63 c1) ⟨ho, .ref l, H, I, rfl, q1 same⟩
    · have hne : xs ≠ [] := fun z => same (.inl z)
      have hk : k ≤ 0 := by
        have h1 : ¬ 2 ≤ k := fun z => big ⟨hne, z⟩
        have h2 : k ≠ 1 := fun z => same (.inr z)
        omega
      have c1 : (its.toArray.isEmpty || k == 1) = false := by
        rw [emp]
        cases xs with
        | nil => exact absurd rfl hne
        | cons a b => simp; omega
      have c2 : (decide (k ≤ 0) || its.toArray.isEmpty) = true := by
        rw [decide_eq_true hk]; rfl
      refine call_meets F.slot_tuple_mul ⟨_, ho, rfl⟩ F.entry_tuple_mul (F.args_tuple_mul_2 _ _) (mul_none l its.toArray n dd sl k t in63 c1 c2) ⟨ho, ?_⟩
      have q := q2 same s.heap.objs.size (I.hok.fresh (Nat.le_refl _))
      have e0 : (List.replicate k.toNat xs).flatten = [] := by
        rw [show k.toNat = 0 by omega]; rfl
      rw [e0] at q
      exact ⟨.ref s.heap.objs.size, _, I.laid (t' := s.toks) (o := .tup []) (fun b ob q => Heap.get?_push_of_some _ q) (Nat.le_refl _) ⟨Nat.zero_le _, [], .nil, IsTup.new _ _⟩, rfl, q⟩
end
end DD
namespace DD
open PySem PySem.Spec PyProof.Rows L2
variable [IW : HasW]
section
variable {X : Cx} {a b d e : Expr} {pos : Pos}

/-! ## names, constants -/
def rdE (i : Nat) (env : En) : M Dv := fun S => match env[i]? with
  | some (some w) => some (w, S)
  | _ => none
theorem rdE_of {i : Nat} {env : En} {S : Sto} {w : Dv} (h : env[i]? = some (some w)) : rdE i env S = some (w, S) := by
  unfold rdE; rw [h]
theorem ed_v {i : Nat} (h : PE X e (tVar i)) : ED X e (rdE i) := ed_of h (by
  rintro σ H Q ⟨hd, env, S, io, w, S', r, en, hm, hq⟩
  unfold rdE at hm
  split at hm
  · rename_i w' hw
    cases hm
    obtain ⟨v, h1, h2⟩ := en.2 i _ hw
    exact ⟨v, h1, hq.self r h2⟩
  · cases hm)
theorem ed_c {v : V} {w : Dv} (h : PE X e (tC v)) (hd : ∀ hd H io S, Dn ⟨X.K, hd⟩ H io S w v) : ED X e (fun _ => M.ret w) := ed_of h (by
  rintro σ H Q ⟨hd', env, S, io, w', S', r, en, hm, hq⟩
  obtain ⟨rfl, rfl⟩ := M.ret_some hm
  exact hq.self r (hd _ _ _ _))
theorem ed_int {i : Int} {j} : ED X (.Constant (.int i) j pos) (fun _ => M.ret (.int i)) := ed_c pe_int fun _ _ _ _ => rfl
theorem ed_bl {i : Bool} {j} : ED X (.Constant (.bool i) j pos) (fun _ => M.ret (.bl i)) := ed_c pe_bl fun _ _ _ _ => rfl
theorem ed_non {j} : ED X (.Constant .none j pos) (fun _ => M.ret .non) := ed_c pe_non fun _ _ _ _ => rfl
theorem ed_str {x : Str} {j} : ED X (.Constant (.str x) j pos) (fun _ => M.ret (.str x)) := ed_c pe_str fun _ _ _ _ => rfl
/-- a live list is frozen -/
def fzS (S : Sto) (n : Nat) : Option Dv := match S[n]? with
  | some o => o.fz
  | none => none
theorem fzS_some {S : Sto} {n : Nat} {w : Dv} (h : fzS S n = some w) : ∃ o, S[n]? = some o ∧ o.fz = some w := by
  unfold fzS at h
  split at h
  · rename_i o ho
    exact ⟨o, ho, h⟩
  · cases h
def fzD : Dv → M Dv
  | .ref n => fun S => match fzS S n with
    | some w => some (w, S.set n .gone)
    | none => none
  | w => M.ret w
theorem ed_fz {m : En → M Dv} (h : ED X e m) : ED X e (fun env => M.bind (m env) fzD) := ed_of h (by
  rintro σ H Q ⟨hd, env, S, io, w, S', r, en, hm, hq⟩
  obtain ⟨x, S1, h1, hm⟩ := M.bind_some hm
  refine ⟨hd, env, S, io, x, S1, r, en, h1, fun v H1 io1 k1 r1 d1 => ?_⟩
  cases x with
  | ref n =>
    change (match fzS S1 n with | some w => some (w, S1.set n .gone) | none => none) = some (w, S') at hm
    split at hm
    · rename_i w2 hs
      cases hm
      obtain ⟨o, ho, hf⟩ := fzS_some hs
      obtain ⟨a, rfl, ha⟩ := d1
      exact hq _ H1 io1 (k1.trans Kp.gone) r1.gone (gone_fz r1 ho hf ha)
    · cases hm
  | _ =>
    obtain ⟨rfl, rfl⟩ := M.ret_some hm
    exact hq v H1 io1 k1 r1 d1)

/-! ## operators -/
def rD2 (K : PySem.W.Frag) (g : Dv → Dv → M Dv) : R2 := fun x y H Q => ∃ hd wx wy S io w S', Rst ⟨K, hd⟩ H io S ∧ Dn ⟨K, hd⟩ H io S wx x ∧ Dn ⟨K, hd⟩ H io S wy y ∧ g wx wy S = some (w, S') ∧ Post ⟨K, hd⟩ H io S w S' Q
abbrev OD (X : Cx) (f : Value → Value → Sem Value) (g : Dv → Dv → M Dv) : Prop := OpR X f (rD2 X.K g)
theorem ed_bin {op : Operator} {g : Dv → Dv → M Dv} {m n : En → M Dv} (ho : OD X (binaryOp op) g) (ha : ED X a m) (hb : ED X b n) :
    ED X (.BinOp a op b pos) (fun env => M.bind (m env) fun x => M.bind (n env) fun y => g x y) := ed_of (pe_op ho ha hb) (by
  rintro σ H Q ⟨hd, env, S, io, w, S', r, en, hm, hq⟩
  obtain ⟨x, S1, h1, hm⟩ := M.bind_some hm
  obtain ⟨y, S2, h2, hm⟩ := M.bind_some hm
  refine ⟨hd, env, S, io, x, S1, r, en, h1, fun v H1 io1 k1 r1 d1 => ?_⟩
  refine ⟨hd, env, S1, io1, y, S2, r1, en.mono k1, h2, fun u H2 io2 k2 r2 d2 => ?_⟩
  exact ⟨hd, x, y, S2, io2, w, S', r2, Dn.mono k2 _ _ d1, d2, hm, hq.after (k1.trans k2)⟩)
/-- ints to an int -/
theorem od_int {f : Value → Value → Sem Value} {C : Int → Int → Prop} {g : Int → Int → Int} [∀ i j, Decidable (C i j)] (h : OpR X f (rI C fun i j => .int (g i j))) :
    ∀ {pins : List (Addr × Obj)} {s : Shared} {σ : L2.St} {H : Hp} {x y : V} {v u : Value} {Q : VK} {hd S io w S'} {i j : Int}, Inv X pins σ H s → RelV x v → RelV y u →
      Rst ⟨X.K, hd⟩ H io S → x = .int i → y = .int j → (if C i j then some (Dv.int (g i j), S) else none) = some (w, S') → Post ⟨X.K, hd⟩ H io S w S' Q →
      wpAny (model X.prog X.w) X.A (f v u) (EP X pins σ Q) X.xe s := by
  intro pins s σ H x y v u Q hd S io w S' i j I rx ry r ex ey hm hq
  split at hm
  · rename_i hc
    cases hm
    exact h pins s σ H x y v u Q I rx ry ⟨i, j, ex, ey, hc, hq.self r rfl⟩
  · cases hm
def addD : Dv → Dv → M Dv
  | .int i, .int j => M.ret (.int (i + j))
  | .str x, .str y => fun S => if x.length + y.length ≤ sizeLine then some (.str (x ++ y), S) else none
  | .tup xs, .tup ys => fun S => if xs.length + ys.length ≤ sizeLine then some (.tup (xs ++ ys), S) else none
  | x, y => fun S => match lsV S x, lsV S y with
    | some xs, some ys => if xs.length + ys.length ≤ sizeLine then some (.lst (xs ++ ys), S) else none
    | _, _ => none
theorem od_addL {pins : List (Addr × Obj)} {s : Shared} {σ : L2.St} {H : Hp} {x y : V} {v u : Value} {Q : VK} {hd S io w S'} {wx wy : Dv} (I : Inv X pins σ H s) (rx : RelV x v) (ry : RelV y u)
    (r : Rst ⟨X.K, hd⟩ H io S) (dx : Dn ⟨X.K, hd⟩ H io S wx x) (dy : Dn ⟨X.K, hd⟩ H io S wy y)
    (hm : (match lsV S wx, lsV S wy with | some xs, some ys => if xs.length + ys.length ≤ sizeLine then some (Dv.lst (xs ++ ys), S) else none | _, _ => none) = some (w, S')) (hq : Post ⟨X.K, hd⟩ H io S w S' Q) :
    wpAny (model X.prog X.w) X.A (binaryOp .Add v u) (EP X pins σ Q) X.xe s := by
  split at hm
  · rename_i xs ys h1 h2
    split at hm
    · rename_i hz
      cases hm
      obtain ⟨a, vs, rfl, ha, _, da⟩ := lsV_at r dx h1
      obtain ⟨b, us, rfl, hb, _, db⟩ := lsV_at r dy h2
      have hz' : vs.length + us.length ≤ sizeLine := by rw [da.length, db.length]; exact hz
      refine op_cat pins s σ H _ _ v u Q I rx ry ⟨a, b, vs, us, rfl, rfl, ha, hb, hz', fun p hp => ?_⟩
      exact hq _ _ io (Kp.fresh hp) (r.fresh hp) (new_lst r hp (by rw [List.length_append]; exact hz') (da.append db))
    · cases hm
  · cases hm
theorem od_add : OD X (binaryOp .Add) addD := by
  rintro pins s σ H x y v u Q I rx ry ⟨hd, wx, wy, S, io, w, S', r, dx, dy, hm, hq⟩
  unfold addD at hm
  split at hm
  · obtain ⟨rfl, rfl⟩ := M.ret_some hm
    exact op_add pins s σ H x y v u Q I rx ry ⟨_, _, dx, dy, hq.self r rfl⟩
  · split at hm
    · rename_i hz
      cases hm
      exact op_add_str pins s σ H x y v u Q I rx ry ⟨_, _, dx, dy, hz, hq.self r rfl⟩
    · cases hm
  · split at hm
    · rename_i xs ys hz
      cases hm
      obtain ⟨a, vs, rfl, ha, da⟩ := dx
      obtain ⟨b, us, rfl, hb, db⟩ := dy
      have hz' : vs.length + us.length ≤ sizeLine := by rw [da.length, db.length]; exact hz
      refine op_catA pins s σ H _ _ v u Q I rx ry ⟨a, b, vs, us, rfl, rfl, ha.sq, hb.sq, hz', fun e0 => ?_, fun _ e1 => ?_, fun _ _ p hp => ?_⟩
      · have l := da.length
        rw [e0] at l
        have : xs = [] := List.eq_nil_of_length_eq_zero l.symm
        subst this
        exact hq.self r ⟨b, us, rfl, hb, by simpa using db⟩
      · have l := db.length
        rw [e1] at l
        have : ys = [] := List.eq_nil_of_length_eq_zero l.symm
        subst this
        exact hq.self r ⟨a, vs, rfl, ha, by rw [List.append_nil]; exact da⟩
      · exact hq _ _ io (Kp.fresh hp) (r.fresh hp) (new_tup hp (da.append db))
    · cases hm
  · exact od_addL I rx ry r dx dy hm hq
def subD : Dv → Dv → M Dv
  | .int i, .int j => M.ret (.int (i - j))
  | _, _ => M.no
theorem od_sub : OD X (binaryOp .Sub) subD := by
  rintro pins s σ H x y v u Q I rx ry ⟨hd, wx, wy, S, io, w, S', r, dx, dy, hm, hq⟩
  unfold subD at hm
  split at hm
  · obtain ⟨rfl, rfl⟩ := M.ret_some hm
    exact op_sub pins s σ H x y v u Q I rx ry ⟨_, _, dx, dy, hq.self r rfl⟩
  · cases hm
instance (i j : Int) : Decidable (CMulW i j) := by unfold CMulW; infer_instance
instance (i j : Int) : Decidable (CDivW i j) := by unfold CDivW; infer_instance
instance (i j : Int) : Decidable (CPow i j) := by unfold CPow; infer_instance
instance (i j : Int) : Decidable (CDivP i j) := by unfold CDivP; infer_instance
/-- tuple * 1 is the tuple; list * k -/
def mulD : Dv → Dv → M Dv
  | .int i, .int j => fun S => if CMulW i j then some (.int (i * j), S) else none
  | .tup xs, .int k => fun S => if -(2 ^ 63) ≤ k ∧ k < 2 ^ 63 ∧ (xs.length = 0 ∨ k ≤ 1 ∨ (k ≤ 1000 ∧ xs.length ≤ 1000)) then some (.tup (List.replicate k.toNat xs).flatten, S) else none
  | x, .int k => fun S => match lsV S x with
    | some xs => if -(2 ^ 63) ≤ k ∧ k < 2 ^ 63 ∧ xs.length * k.toNat ≤ sizeLine then some (.lst (List.replicate k.toNat xs).flatten, S) else none
    | none => none
  | _, _ => M.no
theorem rep_len {α : Type} (k : Nat) (xs : List α) : (List.replicate k xs).flatten.length = k * xs.length := by simp
theorem od_mul : OD X (binaryOp .Mult) mulD := by
  rintro pins s σ H x y v u Q I rx ry ⟨hd, wx, wy, S, io, w, S', r, dx, dy, hm, hq⟩
  unfold mulD at hm
  split at hm
  · exact od_int op_mulW I rx ry r dx dy hm hq
  · rename_i xs k
    split at hm
    · rename_i hc
      cases hm
      obtain ⟨a, vs, rfl, ha, da⟩ := dx
      have l := da.length
      refine op_repAny pins s σ H _ _ v u Q I rx ry ⟨a, k, vs, rfl, dy, ha.sq, hc.1, hc.2.1, ?_, fun z => ?_, fun z p hp => ?_⟩
      · rcases hc.2.2 with z | z | z
        · exact .inl (List.eq_nil_of_length_eq_zero (by rw [l]; exact z))
        · exact .inr (.inl z)
        · exact .inr (.inr ⟨z.1, by rw [l]; exact z.2⟩)
      · have e : (List.replicate k.toNat xs).flatten = xs := by
          rcases z with z | z
          · have : xs = [] := List.eq_nil_of_length_eq_zero (by rw [← l, z]; rfl)
            rw [this]; simp
          · rw [z]; simp
        rw [e] at hq
        exact hq.self r ⟨a, vs, rfl, ha, da⟩
      · exact hq _ _ io (Kp.fresh hp) (r.fresh hp) (new_tup hp (da.rep _))
    · cases hm
  · rename_i k _ _
    dsimp only at hm
    split at hm
    · rename_i xs h1
      split at hm
      · rename_i hc
        cases hm
        obtain ⟨a, vs, rfl, ha, _, da⟩ := lsV_at r dx h1
        have hz : vs.length * k.toNat ≤ sizeLine := by rw [da.length]; exact hc.2.2
        refine op_rep pins s σ H _ _ v u Q I rx ry ⟨a, k, vs, rfl, dy, ha, hc.1, hc.2.1, hz, fun p hp => ?_⟩
        exact hq _ _ io (Kp.fresh hp) (r.fresh hp) (new_lst r hp (by rw [rep_len, Nat.mul_comm]; exact hz) (da.rep _))
      · cases hm
    · cases hm
  · cases hm
def fdivD : Dv → Dv → M Dv
  | .int i, .int j => fun S => if CDivW i j then some (.int (i / j), S) else none
  | _, _ => M.no
theorem od_fdiv : OD X (binaryOp .FloorDiv) fdivD := by
  rintro pins s σ H x y v u Q I rx ry ⟨hd, wx, wy, S, io, w, S', r, dx, dy, hm, hq⟩
  unfold fdivD at hm
  split at hm
  · exact od_int op_fdivW I rx ry r dx dy hm hq
  · cases hm
def modD : Dv → Dv → M Dv
  | .int i, .int j => fun S => if 0 < j then some (.int (i % j), S) else none
  | _, _ => M.no
theorem od_mod : OD X (binaryOp .Mod) modD := by
  rintro pins s σ H x y v u Q I rx ry ⟨hd, wx, wy, S, io, w, S', r, dx, dy, hm, hq⟩
  unfold modD at hm
  split at hm
  · exact od_int (C := fun _ j => 0 < j) op_mod I rx ry r dx dy hm hq
  · cases hm
def powD : Dv → Dv → M Dv
  | .int i, .int j => fun S => if CPow i j then some (.int (i ^ j.toNat), S) else none
  | _, _ => M.no
theorem od_pow : OD X (binaryOp .Pow) powD := by
  rintro pins s σ H x y v u Q I rx ry ⟨hd, wx, wy, S, io, w, S', r, dx, dy, hm, hq⟩
  unfold powD at hm
  split at hm
  · exact od_int op_pow I rx ry r dx dy hm hq
  · cases hm
/-- - n -/
def negD : Dv → M Dv
  | .int i => M.ret (.int (-i))
  | _ => M.no
def rD1 (K : PySem.W.Frag) (g : Dv → M Dv) : V → Hp → VK → Prop := fun x H Q => ∃ hd wx S io w S', Rst ⟨K, hd⟩ H io S ∧ Dn ⟨K, hd⟩ H io S wx x ∧ g wx S = some (w, S') ∧ Post ⟨K, hd⟩ H io S w S' Q
theorem un_negD : UnR X (unaryOp .USub) (rD1 X.K negD) := by
  rintro pins s σ H x v Q I rx ⟨hd, wx, S, io, w, S', r, dx, hm, hq⟩
  unfold negD at hm
  split at hm
  · obtain ⟨rfl, rfl⟩ := M.ret_some hm
    exact un_neg pins s σ H x v Q I rx ⟨_, dx, hq.self r rfl⟩
  · cases hm
theorem ed_un {op : UnaryOp} {g : Dv → M Dv} {m : En → M Dv} (ho : UnR X (unaryOp op) (rD1 X.K g)) (ha : ED X a m) : ED X (.UnaryOp op a pos) (fun env => M.bind (m env) g) := ed_of (pe_un ho ha) (by
  rintro σ H Q ⟨hd, env, S, io, w, S', r, en, hm, hq⟩
  obtain ⟨x, S1, h1, hm⟩ := M.bind_some hm
  refine ⟨hd, env, S, io, x, S1, r, en, h1, fun v H1 io1 k1 r1 d1 => ?_⟩
  exact ⟨hd, x, S1, io1, w, S', r1, d1, hm, hq.after k1⟩)

/-! ## comparisons -/
theorem od_cmp {op : CmpOp} {p : Int → Int → Bool} (h : OpR X (compareOp op) (rI0 fun i j => .bl (p i j))) : OD X (compareOp op) (fun x y => match x, y with | .int i, .int j => M.ret (.bl (p i j)) | _, _ => M.no) := by
  rintro pins s σ H x y v u Q I rx ry ⟨hd, wx, wy, S, io, w, S', r, dx, dy, hm, hq⟩
  dsimp only at hm
  split at hm
  · obtain ⟨rfl, rfl⟩ := M.ret_some hm
    exact h pins s σ H x y v u Q I rx ry ⟨_, _, dx, dy, hq.self r rfl⟩
  · cases hm
def ltD : Dv → Dv → M Dv
  | .int i, .int j => M.ret (.bl (decide (i < j)))
  | _, _ => M.no
def leD : Dv → Dv → M Dv
  | .int i, .int j => M.ret (.bl (decide (i ≤ j)))
  | _, _ => M.no
def gtD : Dv → Dv → M Dv
  | .int i, .int j => M.ret (.bl (decide (j < i)))
  | _, _ => M.no
def geD : Dv → Dv → M Dv
  | .int i, .int j => M.ret (.bl (decide (j ≤ i)))
  | _, _ => M.no
theorem od_lt : OD X (compareOp .Lt) ltD := od_cmp op_lt
theorem od_le : OD X (compareOp .LtE) leD := od_cmp op_le
theorem od_gt : OD X (compareOp .Gt) gtD := od_cmp op_gt1
theorem od_ge : OD X (compareOp .GtE) geD := od_cmp op_ge1
end

/-! ## data of any depth -/
mutual
def Dv.pu : Dv → Bool
  | .tup ws => Dv.pus ws
  | .lst ws => Dv.pus ws
  | .kls ws => Dv.pus ws
  | .ref _ => false
  | .ty _ => false
  | .fx _ => false
  | .dct _ _ => false
  | .dck _ _ => false
  | .ob _ _ _ => false
  | .sti _ => false
  | .cl _ => false
  | .stt _ => false
  | _ => true
def Dv.pus : List Dv → Bool
  | [] => true
  | w :: ws => w.pu && Dv.pus ws
end
mutual
def py : Dv → PyData
  | .non => .none
  | .bl b => .bool b
  | .int i => .int i
  | .str x => .str x
  | .tup ws => .tuple (pys ws)
  | .lst ws => .list (pys ws)
  | .kls ws => .list (pys ws)
  | _ => .none
def pys : List Dv → List PyData
  | [] => []
  | w :: ws => py w :: pys ws
end
section
variable {c : Cf} {H : Hp} {io : List Addr} {S : Sto}
mutual
theorem dn_dp : ∀ (w : Dv) (v : V), w.pu = true → Dn c H io S w v → Dp c.K H v (py w)
  | .non, v, _, d => by
    have e : v = .non := d
    subst e; exact .non
  | .bl b, v, _, d => by
    have e : v = .bl b := d
    subst e; exact .bl b
  | .int i, v, _, d => by
    have e : v = .int i := d
    subst e; exact .int i
  | .str x, v, _, d => by
    have e : v = .str x := d
    subst e; exact .str x
  | .tup ws, v, h, d => by
    obtain ⟨a, xs, rfl, h1, hd⟩ := d
    exact .tup h1.sq (dns_dp ws xs h hd)
  | .lst ws, v, h, d => by
    obtain ⟨a, xs, rfl, h1, _, _, _, hd⟩ := d
    exact .lst (.of h1) (dns_dp ws xs h hd)
  | .kls ws, v, h, d => by
    obtain ⟨a, xs, rfl, h1, hd⟩ := d
    exact .lst h1.sq (dns_dp ws xs h hd)
  | .ref _, v, h, _ => by cases h
  | .ty _, v, h, _ => by cases h
  | .fx _, v, h, _ => by cases h
  | .dct _ _, v, h, _ => by cases h
  | .dck _ _, v, h, _ => by cases h
  | .ob _ _ _, v, h, _ => by cases h
  | .sti _, v, h, _ => by cases h
  | .cl _, v, h, _ => by cases h
  | .stt _, v, h, _ => by cases h
theorem dns_dp : ∀ (ws : List Dv) (vs : List V), Dv.pus ws = true → Dns c H io S ws vs → DpAll c.K H vs (pys ws)
  | [], vs, _, d => by
    have e : vs = [] := d
    subst e; exact .nil
  | w :: ws, vs, h, d => by
    obtain ⟨v, vr, rfl, h1, h2⟩ := d
    have h' : w.pu = true ∧ Dv.pus ws = true := by
      simpa [Dv.pus] using h
    exact .cons (dn_dp w v h'.1 h1) (dns_dp ws vr h'.2 h2)
end
/-- a value as it is to be read: a live list by its items -/
def res (S : Sto) (w : Dv) : Option Dv := if w.pu = true then some w else match w with
  | .ref n => match stL S n with
    | some ws => if Dv.pus ws = true then some (.lst ws) else none
    | none => none
  | _ => none
theorem res_pu {w : Dv} (h : w.pu = true) : res S w = some w := by
  unfold res; rw [if_pos h]
theorem res_ref {n : Nat} {ws : List Dv} (h : S[n]? = some (.lst ws)) (hp : Dv.pus ws = true) : res S (.ref n) = some (.lst ws) := by
  unfold res
  rw [if_neg (by simp [Dv.pu])]
  show (match stL S n with | some ws => if Dv.pus ws = true then some (Dv.lst ws) else none | none => none) = _
  rw [stL_of h]
  show (if Dv.pus ws = true then some (Dv.lst ws) else none) = _
  rw [if_pos hp]
theorem res_dp (r : Rst c H io S) {w w' : Dv} {v : V} (d : Dn c H io S w v) (h : res S w = some w') : Dp c.K H v (py w') := by
  unfold res at h
  split at h
  · rename_i hp
    cases h
    exact dn_dp w v hp d
  · split at h
    · split at h
      · rename_i ws hs
        split at h
        · rename_i hp
          cases h
          obtain ⟨a, rfl, ha⟩ := d
          obtain ⟨b, xs, hb, hH, _, hd⟩ := r.obj _ ws (stL_some hs)
          rw [ha] at hb; cases hb
          exact .lst (.of hH) (dns_dp ws xs hp hd)
        · cases h
      · cases h
    · cases h
end
def twoStr : Dv → Dv → Option (Str × Str)
  | .str a, .str b => some (a, b)
  | _, _ => none
theorem twoStr_some {x y : Dv} {a b : Str} (h : twoStr x y = some (a, b)) : x = .str a ∧ y = .str b := by
  unfold twoStr at h
  split at h
  · cases h; exact ⟨rfl, rfl⟩
  · cases h
def eqD (x y : Dv) : M Dv := fun S => match twoStr x y with
  | some (a, b) => some (.bl (decide (V.str a = V.str b)), S)
  | none => match res S x, res S y with
    | some p, some q => if SeqAt.shaped (py p) = true ∧ SeqAt.shaped (py q) = true then some (.bl (PyData.eqv (py p) (py q)), S) else none
    | _, _ => none
def neD (x y : Dv) : M Dv := fun S => match twoStr x y with
  | some (a, b) => some (.bl (!decide (V.str a = V.str b)), S)
  | none => match res S x, res S y with
    | some p, some q => if SeqAt.shaped (py p) = true ∧ SeqAt.shaped (py q) = true then some (.bl (!PyData.eqv (py p) (py q)), S) else none
    | _, _ => none
section
variable {X : Cx} {a b d e : Expr} {pos : Pos}
theorem od_eq (hu : X.A.units + 64 < cLine) : OD X (compareOp .Eq) eqD := by
  rintro pins s σ H x y v u Q I rx ry ⟨hd, wx, wy, S, io, w, S', r, dx, dy, hm, hq⟩
  unfold eqD at hm
  split at hm
  · rename_i a b hs
    obtain ⟨rfl, rfl⟩ := twoStr_some hs
    cases hm
    have e1 : x = V.str a := dx
    have e2 : y = V.str b := dy
    subst e1; subst e2
    exact op_eq pins s σ H _ _ v u Q I rx ry ⟨rfl, hq.self r rfl⟩
  split at hm
  · rename_i p q h1 h2
    split at hm
    · rename_i hc
      cases hm
      exact op_eqD hu pins s σ H x y v u Q I rx ry ⟨_, _, res_dp r dx h1, res_dp r dy h2, hc.1, hc.2, hq.self r rfl⟩
    · cases hm
  · cases hm
theorem od_ne (hu : X.A.units + 64 < cLine) : OD X (compareOp .NotEq) neD := by
  rintro pins s σ H x y v u Q I rx ry ⟨hd, wx, wy, S, io, w, S', r, dx, dy, hm, hq⟩
  unfold neD at hm
  split at hm
  · rename_i a b hs
    obtain ⟨rfl, rfl⟩ := twoStr_some hs
    cases hm
    have e1 : x = V.str a := dx
    have e2 : y = V.str b := dy
    subst e1; subst e2
    exact op_ne pins s σ H _ _ v u Q I rx ry ⟨rfl, hq.self r rfl⟩
  split at hm
  · rename_i p q h1 h2
    split at hm
    · rename_i hc
      cases hm
      exact op_neD hu pins s σ H x y v u Q I rx ry ⟨_, _, res_dp r dx h1, res_dp r dy h2, hc.1, hc.2, hq.self r rfl⟩
    · cases hm
  · cases hm
/-- is None, is True -/
def isN : Dv → Bool
  | .non => true
  | _ => false
theorem isN_dec {c : Cf} {H : Hp} {io : List Addr} {S : Sto} {w : Dv} {v : V} (h : Dn c H io S w v) : decide (v = .non) = isN w := by
  cases w with
  | non => have e : v = .non := h; subst e; rfl
  | bl b => have e : v = .bl b := h; subst e; rfl
  | int b => have e : v = .int b := h; subst e; rfl
  | str b => have e : v = .str b := h; subst e; rfl
  | tup ws => obtain ⟨a, xs, rfl, _⟩ := h; rfl
  | lst ws => obtain ⟨a, xs, rfl, _⟩ := h; rfl
  | kls ws => obtain ⟨a, xs, rfl, _⟩ := h; rfl
  | ref n => obtain ⟨a, rfl, _⟩ := h; rfl
  | ty n => have e : v = .ty n := h; subst e; rfl
  | fx a => have e : v = .ref a := h; subst e; rfl
  | dct ks vs => obtain ⟨a, _, _, rfl, _⟩ := h; rfl
  | dck ks vs => obtain ⟨a, _, rfl, _⟩ := h; rfl
  | ob cl fs vs => obtain ⟨a, _, _, _, rfl, _⟩ := h; rfl
  | sti ns => obtain ⟨a, rfl, _⟩ := h; rfl
  | cl n => obtain ⟨a, _, rfl⟩ := h; rfl
  | stt ns => obtain ⟨a, _, rfl, _⟩ := h; rfl
def isD : Dv → Dv → M Dv
  | .bl x, .bl y => M.ret (.bl (decide (x = y)))
  | x, .non => M.ret (.bl (isN x))
  | _, _ => M.no
def isntD : Dv → Dv → M Dv
  | .bl x, .bl y => M.ret (.bl (!decide (x = y)))
  | x, .non => M.ret (.bl (!isN x))
  | _, _ => M.no
theorem od_is : OD X (compareOp .Is) isD := by
  rintro pins s σ H x y v u Q I rx ry ⟨hd, wx, wy, S, io, w, S', r, dx, dy, hm, hq⟩
  unfold isD at hm
  split at hm
  · obtain ⟨rfl, rfl⟩ := M.ret_some hm
    exact op_isBl pins s σ H x y v u Q I rx ry ⟨_, _, dx, dy, hq.self r rfl⟩
  · obtain ⟨rfl, rfl⟩ := M.ret_some hm
    exact op_isN1 pins s σ H x y v u Q I rx ry ⟨dy, hq.self r (by rw [isN_dec dx]; rfl)⟩
  · cases hm
theorem od_isnt : OD X (compareOp .IsNot) isntD := by
  rintro pins s σ H x y v u Q I rx ry ⟨hd, wx, wy, S, io, w, S', r, dx, dy, hm, hq⟩
  unfold isntD at hm
  split at hm
  · obtain ⟨rfl, rfl⟩ := M.ret_some hm
    exact op_notBl pins s σ H x y v u Q I rx ry ⟨_, _, dx, dy, hq.self r rfl⟩
  · obtain ⟨rfl, rfl⟩ := M.ret_some hm
    exact op_notN1 pins s σ H x y v u Q I rx ry ⟨dy, hq.self r (by rw [isN_dec dx]; rfl)⟩
  · cases hm
def asB : Dv → M Bool
  | .bl b => M.ret b
  | _ => M.no
theorem asB_some {w : Dv} {b : Bool} {S S' : Sto} (h : asB w S = some (b, S')) : w = .bl b ∧ S' = S := by
  unfold asB at h
  split at h
  · obtain ⟨rfl, rfl⟩ := M.ret_some h
    exact ⟨rfl, rfl⟩
  · cases h
theorem ed_cmp {op : CmpOp} {g : Dv → Dv → M Dv} {m n : En → M Dv} (ho : OD X (compareOp op) g) (ha : ED X a m) (hb : ED X b n) (hm : behindInMarks op b = false) :
    ED X (.Compare a [op] [b] pos) (fun env => M.bind (m env) fun x => M.bind (n env) fun y => g x y) := ed_of (pe_cmpR ho ha hb hm) (by
  rintro σ H Q ⟨hd, env, S, io, w, S', r, en, hm, hq⟩
  obtain ⟨x, S1, h1, hm⟩ := M.bind_some hm
  obtain ⟨y, S2, h2, hm⟩ := M.bind_some hm
  refine ⟨hd, env, S, io, x, S1, r, en, h1, fun v H1 io1 k1 r1 d1 => ?_⟩
  refine ⟨hd, env, S1, io1, y, S2, r1, en.mono k1, h2, fun u H2 io2 k2 r2 d2 => ?_⟩
  exact ⟨hd, x, y, S2, io2, w, S', r2, Dn.mono k2 _ _ d1, d2, hm, hq.after (k1.trans k2)⟩)
theorem td_cmp {op : CmpOp} {g : Dv → Dv → M Dv} {m n : En → M Dv} (ho : OD X (compareOp op) g) (ha : ED X a m) (hb : ED X b n) (hm : behindInMarks op b = false) :
    TD X (.Compare a [op] [b] pos) (fun env => M.bind (M.bind (m env) fun x => M.bind (n env) fun y => g x y) asB) := td_of (pt_cmpR ho ha hb hm) (by
  rintro σ H Q ⟨hd, env, S, io, w, S', r, en, hm, hq⟩
  obtain ⟨z, S3, h3, hm⟩ := M.bind_some hm
  obtain ⟨x, S1, h1, h3⟩ := M.bind_some h3
  obtain ⟨y, S2, h2, h3⟩ := M.bind_some h3
  obtain ⟨rfl, rfl⟩ := asB_some hm
  refine ⟨hd, env, S, io, x, S1, r, en, h1, fun v H1 io1 k1 r1 d1 => ?_⟩
  refine ⟨hd, env, S1, io1, y, S2, r1, en.mono k1, h2, fun u H2 io2 k2 r2 d2 => ?_⟩
  refine ⟨hd, x, y, S2, io2, _, _, r2, Dn.mono k2 _ _ d1, d2, h3, fun v' H3 io3 k3 r3 d3 => ?_⟩
  exact ⟨w, d3, hq H3 io3 ((k1.trans k2).trans k3) r3⟩)
/-- a chain of two comparisons -/
def chD (g g' : Dv → Dv → M Dv) (m n l : M Dv) : M Dv := M.bind m fun x => M.bind n fun y => M.bind (M.bind (g x y) asB) fun b => if b = true then M.bind l fun z => g' y z else M.ret (.bl false)
theorem ch_read {g g' : Dv → Dv → M Dv} {m n l : En → M Dv} {σ : L2.St} {H : Hp} {Q : VK} (h : tD X.K (fun env => chD g g' (m env) (n env) (l env)) σ H Q) :
    tChain (rD2 X.K g) (rD2 X.K g') (tD X.K m) (tD X.K n) (tD X.K l) σ H Q := by
  obtain ⟨hd, env, S, io, w, S', r, en, hm, hq⟩ := h
  obtain ⟨x, S1, h1, hm⟩ := M.bind_some hm
  obtain ⟨y, S2, h2, hm⟩ := M.bind_some hm
  obtain ⟨c, S4, h4, hm⟩ := M.bind_some hm
  obtain ⟨z, S3, h3, h4⟩ := M.bind_some h4
  obtain ⟨rfl, rfl⟩ := asB_some h4
  refine ⟨hd, env, S, io, x, S1, r, en, h1, fun v H1 io1 k1 r1 d1 => ?_⟩
  refine ⟨hd, env, S1, io1, y, S2, r1, en.mono k1, h2, fun u H2 io2 k2 r2 d2 => ?_⟩
  refine ⟨hd, x, y, S2, io2, _, _, r2, Dn.mono k2 _ _ d1, d2, h3, fun v' H3 io3 k3 r3 d3 => ⟨c, d3, ?_⟩⟩
  cases c with
  | false =>
    rw [if_neg Bool.false_ne_true]
    rw [if_neg Bool.false_ne_true] at hm
    obtain ⟨rfl, rfl⟩ := M.ret_some hm
    exact hq _ H3 io3 ((k1.trans k2).trans k3) r3 rfl
  | true =>
    rw [if_pos rfl]
    rw [if_pos rfl] at hm
    obtain ⟨z, S5, h5, hm⟩ := M.bind_some hm
    refine ⟨hd, env, _, io3, z, S5, r3, en.mono ((k1.trans k2).trans k3), h5, fun v5 H5 io5 k5 r5 d5 => ?_⟩
    exact ⟨hd, y, z, S5, io5, w, S', r5, Dn.mono (k3.trans k5) _ _ d2, d5, hm, hq.after (((k1.trans k2).trans k3).trans k5)⟩
theorem ed_chain {op op' : CmpOp} {g g' : Dv → Dv → M Dv} {m n l : En → M Dv} (ho : OD X (compareOp op) g) (ho' : OD X (compareOp op') g') (ha : ED X a m) (hb : ED X b n) (hc : ED X d l)
    (hm : lastMarks [op, op'] [b, d] = false := by with_unfolding_all rfl) : ED X (.Compare a [op, op'] [b, d] pos) (fun env => chD g g' (m env) (n env) (l env)) := ed_of (pe_chain ho ho' ha hb hc hm) fun _ _ _ h => ch_read h
theorem td_chain {op op' : CmpOp} {g g' : Dv → Dv → M Dv} {m n l : En → M Dv} (ho : OD X (compareOp op) g) (ho' : OD X (compareOp op') g') (ha : ED X a m) (hb : ED X b n) (hc : ED X d l)
    (hm : lastMarks [op, op'] [b, d] = false := by with_unfolding_all rfl) : TD X (.Compare a [op, op'] [b, d] pos) (fun env => M.bind (chD g g' (m env) (n env) (l env)) asB) := td_of (pt_chain ho ho' ha hb hc hm) (by
  rintro σ H Q ⟨hd, env, S, io, w, S', r, en, hm, hq⟩
  obtain ⟨z, S3, h3, hm⟩ := M.bind_some hm
  obtain ⟨rfl, rfl⟩ := asB_some hm
  exact ch_read (X := X) ⟨hd, env, S, io, _, _, r, en, h3, fun v H1 io1 k1 r1 d1 => ⟨w, d1, hq H1 io1 k1 r1⟩⟩)

/-! ## tests -/
theorem td_val {m : En → M Dv} (h : ED X e m) (he : ∀ whole, isTrue e X.env whole = (do let v ← whole; standAt e.pos; holding [v] (truthy v)) := by intro _; rfl) : TD X e (fun env => M.bind (m env) asB) := td_of (pt_val h he) (by
  rintro σ H Q ⟨hd, env, S, io, w, S', r, en, hm, hq⟩
  obtain ⟨z, S3, h3, hm⟩ := M.bind_some hm
  obtain ⟨rfl, rfl⟩ := asB_some hm
  exact ⟨hd, env, S, io, _, _, r, en, h3, fun v H1 io1 k1 r1 d1 => ⟨w, d1, hq H1 io1 k1 r1⟩⟩)
abbrev WD (X : Cx) (e : Expr) (m : En → M Bool) : Prop := PW X e (tDT X.K m)
theorem WD.td {m : En → M Bool} (h : WD X e m) : TD X e m := h.pt
def andT (m n : M Bool) : M Bool := M.bind m fun b => if b = true then n else M.ret false
def orT (m n : M Bool) : M Bool := M.bind m fun b => if b = true then M.ret true else n
theorem wd_of {t : TT} {m : En → M Bool} (h : PW X e t) (q : ∀ σ H Q, tDT X.K m σ H Q → t σ H Q) : WD X e m := ⟨fun wh pins s σ H Q I hq => h.run wh pins s σ H Q I (q σ H Q hq)⟩
theorem wd_and1 {m : En → M Bool} (h : TD X a m) : WD X (.BoolOp .And [a] pos) m := pw_and1 h
theorem wd_or1 {m : En → M Bool} (h : TD X a m) : WD X (.BoolOp .Or [a] pos) m := pw_or1 h
theorem wd_and {rest : List Expr} {m n : En → M Bool} (h : TD X a m) (h' : WD X (.BoolOp .And (b :: rest) pos) n) : WD X (.BoolOp .And (a :: b :: rest) pos) (fun env => andT (m env) (n env)) := wd_of (pw_and h h') (by
  rintro σ H Q ⟨hd, env, S, io, w, S', r, en, hm, hq⟩
  obtain ⟨c, S1, h1, hm⟩ := M.bind_some hm
  refine ⟨hd, env, S, io, c, S1, r, en, h1, fun H1 io1 k1 r1 => ?_⟩
  cases c with
  | true =>
    rw [if_pos rfl] at hm ⊢
    exact ⟨hd, env, S1, io1, w, S', r1, en.mono k1, hm, fun H2 io2 k2 r2 => hq H2 io2 (k1.trans k2) r2⟩
  | false =>
    rw [if_neg Bool.false_ne_true] at hm ⊢
    obtain ⟨rfl, rfl⟩ := M.ret_some hm
    exact hq H1 io1 k1 r1)
theorem wd_or {rest : List Expr} {m n : En → M Bool} (h : TD X a m) (h' : WD X (.BoolOp .Or (b :: rest) pos) n) : WD X (.BoolOp .Or (a :: b :: rest) pos) (fun env => orT (m env) (n env)) := wd_of (pw_or h h') (by
  rintro σ H Q ⟨hd, env, S, io, w, S', r, en, hm, hq⟩
  obtain ⟨c, S1, h1, hm⟩ := M.bind_some hm
  refine ⟨hd, env, S, io, c, S1, r, en, h1, fun H1 io1 k1 r1 => ?_⟩
  cases c with
  | false =>
    rw [if_neg Bool.false_ne_true] at hm ⊢
    exact ⟨hd, env, S1, io1, w, S', r1, en.mono k1, hm, fun H2 io2 k2 r2 => hq H2 io2 (k1.trans k2) r2⟩
  | true =>
    rw [if_pos rfl] at hm ⊢
    obtain ⟨rfl, rfl⟩ := M.ret_some hm
    exact hq H1 io1 k1 r1)
def notT (m : M Bool) : M Bool := M.bind m fun b => M.ret (!b)
theorem td_not {m : En → M Bool} (h : TD X a m) : TD X (.UnaryOp .Not a pos) (fun env => notT (m env)) := td_of (pt_not h) (by
  rintro σ H Q ⟨hd, env, S, io, w, S', r, en, hm, hq⟩
  obtain ⟨c, S1, h1, hm⟩ := M.bind_some hm
  obtain ⟨rfl, rfl⟩ := M.ret_some hm
  exact ⟨hd, env, S, io, c, _, r, en, h1, fun H1 io1 k1 r1 => hq H1 io1 k1 r1⟩)
/-! .. as values: all but the last are truth values -/
def andV (m n : M Dv) : M Dv := M.bind (M.bind m asB) fun b => if b = true then n else M.ret (.bl false)
def orV (m n : M Dv) : M Dv := M.bind (M.bind m asB) fun b => if b = true then M.ret (.bl true) else n
theorem ed_one {op} {m : En → M Dv} (h : ED X a m) : ED X (.BoolOp op [a] pos) m := pe_one h
theorem ed_and {rest : List Expr} {m n : En → M Dv} (h : ED X a m) (h' : ED X (.BoolOp .And (b :: rest) pos) n) : ED X (.BoolOp .And (a :: b :: rest) pos) (fun env => andV (m env) (n env)) := ed_of (pe_and h h') (by
  rintro σ H Q ⟨hd, env, S, io, w, S', r, en, hm, hq⟩
  obtain ⟨c, S1, h1, hm⟩ := M.bind_some hm
  obtain ⟨z, S2, h2, h1⟩ := M.bind_some h1
  obtain ⟨rfl, rfl⟩ := asB_some h1
  refine ⟨hd, env, S, io, _, _, r, en, h2, fun v H1 io1 k1 r1 d1 => ⟨c, d1, ?_⟩⟩
  cases c with
  | true =>
    rw [if_pos rfl] at hm ⊢
    exact ⟨hd, env, _, io1, w, S', r1, en.mono k1, hm, hq.after k1⟩
  | false =>
    rw [if_neg Bool.false_ne_true] at hm ⊢
    obtain ⟨rfl, rfl⟩ := M.ret_some hm
    exact hq _ H1 io1 k1 r1 rfl)
theorem ed_or {rest : List Expr} {m n : En → M Dv} (h : ED X a m) (h' : ED X (.BoolOp .Or (b :: rest) pos) n) : ED X (.BoolOp .Or (a :: b :: rest) pos) (fun env => orV (m env) (n env)) := ed_of (pe_or h h') (by
  rintro σ H Q ⟨hd, env, S, io, w, S', r, en, hm, hq⟩
  obtain ⟨c, S1, h1, hm⟩ := M.bind_some hm
  obtain ⟨z, S2, h2, h1⟩ := M.bind_some h1
  obtain ⟨rfl, rfl⟩ := asB_some h1
  refine ⟨hd, env, S, io, _, _, r, en, h2, fun v H1 io1 k1 r1 d1 => ⟨c, d1, ?_⟩⟩
  cases c with
  | false =>
    rw [if_neg Bool.false_ne_true] at hm ⊢
    exact ⟨hd, env, _, io1, w, S', r1, en.mono k1, hm, hq.after k1⟩
  | true =>
    rw [if_pos rfl] at hm ⊢
    obtain ⟨rfl, rfl⟩ := M.ret_some hm
    exact hq _ H1 io1 k1 r1 rfl)
def notV (m : M Dv) : M Dv := M.bind (M.bind m asB) fun b => M.ret (.bl (!b))
theorem ed_not {m : En → M Dv} (h : ED X a m) : ED X (.UnaryOp .Not a pos) (fun env => notV (m env)) := ed_of (pe_not h) (by
  rintro σ H Q ⟨hd, env, S, io, w, S', r, en, hm, hq⟩
  obtain ⟨c, S1, h1, hm⟩ := M.bind_some hm
  obtain ⟨z, S2, h2, h1⟩ := M.bind_some h1
  obtain ⟨rfl, rfl⟩ := asB_some h1
  obtain ⟨rfl, rfl⟩ := M.ret_some hm
  exact ⟨hd, env, S, io, _, _, r, en, h2, fun v H1 io1 k1 r1 d1 => ⟨c, d1, hq _ H1 io1 k1 r1 rfl⟩⟩)
/-- a if t else b -/
def ifE (t : M Bool) (m n : M Dv) : M Dv := M.bind t fun b => if b = true then m else n
theorem ed_if {c : Expr} {t : En → M Bool} {m n : En → M Dv} (hc : TD X c t) (ha : ED X a m) (hb : ED X b n) : ED X (.IfExp c a b pos) (fun env => ifE (t env) (m env) (n env)) := ed_of (pe_ifExp hc ha hb) (by
  rintro σ H Q ⟨hd, env, S, io, w, S', r, en, hm, hq⟩
  obtain ⟨c, S1, h1, hm⟩ := M.bind_some hm
  refine ⟨hd, env, S, io, c, S1, r, en, h1, fun H1 io1 k1 r1 => ?_⟩
  cases c with
  | true =>
    rw [if_pos rfl] at hm ⊢
    exact ⟨hd, env, S1, io1, w, S', r1, en.mono k1, hm, hq.after k1⟩
  | false =>
    rw [if_neg Bool.false_ne_true] at hm ⊢
    exact ⟨hd, env, S1, io1, w, S', r1, en.mono k1, hm, hq.after k1⟩)

/-! ## argument lists, displays -/
def consA (m : M Dv) (n : M (List Dv)) : M (List Dv) := M.bind m fun w => M.bind n fun ws => M.ret (w :: ws)
theorem ad_nil : AD X [] (fun _ => M.ret []) := ad_of pa_nil (by
  rintro σ H Q ⟨hd, env, S, io, w, S', r, en, hm, hq⟩
  obtain ⟨rfl, rfl⟩ := M.ret_some hm
  exact hq [] H io Kp.refl r rfl)
theorem ad_cons {es : List Expr} {m : En → M Dv} {n : En → M (List Dv)} (h : ED X e m) (h' : AD X es n) (hs : starEach (e :: es) X.env = (false, eval e X.env) :: starEach es X.env := by rfl) :
    AD X (e :: es) (fun env => consA (m env) (n env)) := ad_of (pa_cons h h' hs) (by
  rintro σ H Q ⟨hd, env, S, io, ws, S', r, en, hm, hq⟩
  obtain ⟨x, S1, h1, hm⟩ := M.bind_some hm
  obtain ⟨y, S2, h2, hm⟩ := M.bind_some hm
  obtain ⟨rfl, rfl⟩ := M.ret_some hm
  refine ⟨hd, env, S, io, x, S1, r, en, h1, fun v H1 io1 k1 r1 d1 => ?_⟩
  refine ⟨hd, env, S1, io1, y, _, r1, en.mono k1, h2, fun vs H2 io2 k2 r2 d2 => ?_⟩
  exact hq _ H2 io2 (k1.trans k2) r2 ⟨v, vs, rfl, Dn.mono k2 _ _ d1, d2⟩)
def tupD (m : M (List Dv)) : M Dv := M.bind m fun ws S => if ws.length ≤ sizeLine then some (.tup ws, S) else none
def lstD (m : M (List Dv)) : M Dv := M.bind m fun ws S => if ws.length ≤ sizeLine then some (.lst ws, S) else none
/-- a new list that is live -/
def newD (m : M (List Dv)) : M Dv := M.bind m fun ws S => if ws.length ≤ sizeLine then some (.ref S.length, S ++ [.lst ws]) else none
theorem if_some {α : Type} {c : Prop} [Decidable c] {x y : α} (h : (if c then some x else none) = some y) : c ∧ x = y := by
  split at h
  · cases h; exact ⟨‹c›, rfl⟩
  · cases h
theorem ed_tup {es : List Expr} {j} {m : En → M (List Dv)} (h : AD X es m) : ED X (.Tuple es j pos) (fun env => tupD (m env)) := ed_of (pe_tup h) (by
  rintro σ H Q ⟨hd, env, S, io, w, S', r, en, hm, hq⟩
  obtain ⟨ws, S1, h1, hm⟩ := M.bind_some hm
  obtain ⟨hz, e⟩ := if_some hm
  cases e
  refine ⟨hd, env, S, io, ws, _, r, en, h1, fun vs H1 io1 k1 r1 d1 => ⟨by rw [d1.length]; exact hz, fun p hp => ?_⟩⟩
  exact hq _ _ io1 (k1.trans (Kp.fresh hp)) (r1.fresh hp) (new_tup hp d1))
theorem ed_lst {es : List Expr} {m : En → M (List Dv)} (h : AD X es m) : ED X (.List es pos) (fun env => lstD (m env)) := ed_of (pe_lst h) (by
  rintro σ H Q ⟨hd, env, S, io, w, S', r, en, hm, hq⟩
  obtain ⟨ws, S1, h1, hm⟩ := M.bind_some hm
  obtain ⟨hz, e⟩ := if_some hm
  cases e
  refine ⟨hd, env, S, io, ws, _, r, en, h1, fun vs H1 io1 k1 r1 d1 => ⟨by rw [d1.length]; exact hz, fun p hp => ?_⟩⟩
  exact hq _ _ io1 (k1.trans (Kp.fresh hp)) (r1.fresh hp) (new_lst r1 hp (by rw [d1.length]; exact hz) d1))
theorem ed_new {es : List Expr} {m : En → M (List Dv)} (h : AD X es m) : ED X (.List es pos) (fun env => newD (m env)) := ed_of (pe_lst h) (by
  rintro σ H Q ⟨hd, env, S, io, w, S', r, en, hm, hq⟩
  obtain ⟨ws, S1, h1, hm⟩ := M.bind_some hm
  obtain ⟨hz, e⟩ := if_some hm
  cases e
  refine ⟨hd, env, S, io, ws, _, r, en, h1, fun vs H1 io1 k1 r1 d1 => ⟨by rw [d1.length]; exact hz, fun p hp => ?_⟩⟩
  exact hq _ _ _ (k1.trans (Kp.alloc r1 hp)) (r1.alloc hp d1 (by rw [d1.length]; exact hz)) ⟨p, rfl, by rw [← r1.len]; simp⟩)

/-! ## items and slices -/
def ixD : Dv → Dv → M Dv
  | x, .int i => fun S => match sqV S x with
    | some ws => match atI ws i with
      | some w => some (w, S)
      | none => none
    | none => none
  | _, _ => M.no
theorem dns_atI {c : Cf} {H : Hp} {io : List Addr} {S : Sto} {ws : List Dv} {xs : List V} {i : Int} {w : Dv} (d : Dns c H io S ws xs) (h : atI ws i = some w) : ∃ v, atI xs i = some v ∧ Dn c H io S w v := by
  unfold atI at h ⊢
  rw [d.length]
  cases hj : ixN ws.length i with
  | none => rw [hj] at h; cases h
  | some j =>
    rw [hj] at h
    exact d.get h
theorem ix_d : IxR X (rD2 X.K ixD) := by
  rintro value slice pins s σ H x y v u Q I rx ry ⟨hd, wx, wy, S, io, w, S', r, dx, dy, hm, hq⟩ hs
  unfold ixD at hm
  split at hm
  · split at hm
    · rename_i ws h1
      split at hm
      · rename_i w' h2
        cases hm
        obtain ⟨a, xs, rfl, hx, da⟩ := sqV_at r dx h1
        obtain ⟨v', h3, d3⟩ := dns_atI da h2
        rcases hx with hx | hx
        · exact ix_list value slice pins s σ H _ _ v u Q I rx ry ⟨a, xs, _, v', rfl, dy, hx, h3, hq.self r d3⟩ hs
        · exact ix_tup value slice pins s σ H _ _ v u Q I rx ry ⟨a, xs, _, v', rfl, dy, hx, h3, hq.self r d3⟩ hs
      · cases hm
    · cases hm
  · cases hm
theorem ed_ix {m n : En → M Dv} (ha : ED X a m) (hb : ED X b n) (hs : PlainIx b := by exact fun _ _ => rfl) : ED X (.Subscript a b pos) (fun env => M.bind (m env) fun x => M.bind (n env) fun y => ixD x y) := ed_of (pe_ix ix_d ha hb hs) (by
  rintro σ H Q ⟨hd, env, S, io, w, S', r, en, hm, hq⟩
  obtain ⟨x, S1, h1, hm⟩ := M.bind_some hm
  obtain ⟨y, S2, h2, hm⟩ := M.bind_some hm
  refine ⟨hd, env, S, io, x, S1, r, en, h1, fun v H1 io1 k1 r1 d1 => ?_⟩
  refine ⟨hd, env, S1, io1, y, S2, r1, en.mono k1, h2, fun u H2 io2 k2 r2 d2 => ?_⟩
  exact ⟨hd, x, y, S2, io2, w, S', r2, Dn.mono k2 _ _ d1, d2, hm, hq.after (k1.trans k2)⟩)
/-- part of a slice -/
def tDO (K : PySem.W.Frag) (m : En → M (Option Int)) : TO := fun σ H Q => ∃ hd env S io o S', Rst ⟨K, hd⟩ H io S ∧ EnOk ⟨K, hd⟩ H io S env σ ∧ m env S = some (o, S') ∧ ∀ H' io', Kp ⟨K, hd⟩ H io S H' io' S' → Rst ⟨K, hd⟩ H' io' S' → Q o H'
abbrev PD (X : Cx) (e : Option Expr) (m : En → M (Option Int)) : Prop := PO X e (tDO X.K m)
theorem pd_none : PD X none (fun _ => M.ret none) := ⟨fun pins s σ H Q I hq => po_none.run pins s σ H Q I (by
  obtain ⟨hd, env, S, io, o, S', r, en, hm, hq⟩ := hq
  obtain ⟨rfl, rfl⟩ := M.ret_some hm
  exact hq H io Kp.refl r)⟩
def asI : Dv → M (Option Int)
  | .int i => M.ret (some i)
  | _ => M.no
theorem pd_some {m : En → M Dv} (h : ED X e m) : PD X (some e) (fun env => M.bind (m env) asI) := ⟨fun pins s σ H Q I hq => (po_some h).run pins s σ H Q I (by
  obtain ⟨hd, env, S, io, o, S', r, en, hm, hq⟩ := hq
  obtain ⟨x, S1, h1, hm⟩ := M.bind_some hm
  refine ⟨hd, env, S, io, x, S1, r, en, h1, fun v H1 io1 k1 r1 d1 => ?_⟩
  unfold asI at hm
  split at hm
  · obtain ⟨rfl, rfl⟩ := M.ret_some hm
    exact ⟨_, d1, hq H1 io1 k1 r1⟩
  · cases hm)⟩
def cutW {α : Type} (xs : List α) (lo hi : Option Int) : List α := (xs.drop (HT.sIx xs.length 0 lo)).take (HT.sIx xs.length xs.length hi - HT.sIx xs.length 0 lo)
def slD (w : Dv) (lo hi : Option Int) : M Dv := match w with
  | .tup ws => M.ret (.tup (cutW ws lo hi))
  | w => fun S => match lsV S w with
    | some ws => some (.lst (cutW ws lo hi), S)
    | none => none
theorem dns_cut {c : Cf} {H : Hp} {io : List Addr} {S : Sto} {ws : List Dv} {xs : List V} {lo hi : Option Int} (d : Dns c H io S ws xs) : Dns c H io S (cutW ws lo hi) (cutV xs lo hi) := by
  unfold cutW cutV
  rw [d.length]
  exact (d.drop _).take _
theorem cut_whole {ws : List Dv} {lo hi : Option Int} (h : HT.sIx ws.length 0 lo = 0 ∧ HT.sIx ws.length ws.length hi = ws.length) : cutW ws lo hi = ws := by
  unfold cutW
  rw [h.1, h.2]
  simp
def rSlD (K : PySem.W.Frag) : V → Option Int → Option Int → Hp → VK → Prop := fun x lo hi H Q => ∃ hd wx S io w S', Rst ⟨K, hd⟩ H io S ∧ Dn ⟨K, hd⟩ H io S wx x ∧ slD wx lo hi S = some (w, S') ∧ Post ⟨K, hd⟩ H io S w S' Q
theorem sl_d : SlR X (rSlD X.K) := by
  rintro pins s σ H x v vl vu lo hi sl Q I rx hs pl pu ⟨hd, wx, S, io, w, S', r, dx, hm, hq⟩
  have lists : ∀ {wx : Dv}, Dn ⟨X.K, hd⟩ H io S wx x → (match lsV S wx with | some ws => some (Dv.lst (cutW ws lo hi), S) | none => none) = some (w, S') →
      ∃ T id, typeLookup (.type T) "__getitem__" = pure (some (.builtin id)) ∧ s.TypeIs v T ∧ wpAny (model X.prog X.w) X.A (getItem v (.ref sl)) (EP X pins σ Q) X.xe s := fun {wx} dx hm => by
    split at hm
    · rename_i ws h1
      cases hm
      obtain ⟨a, xs, rfl, hx, hz, da⟩ := lsV_at r dx h1
      refine sl_list pins s σ H _ v vl vu lo hi sl Q I rx hs pl pu ⟨a, xs, rfl, .of hx, fun p hp => ?_⟩
      exact hq _ _ io (Kp.fresh hp) (r.fresh hp) (new_lst r hp (Nat.le_trans (cutV_length _ _ _) hz) (dns_cut da))
    · cases hm
  cases wx with
  | tup ws =>
    obtain ⟨rfl, rfl⟩ := M.ret_some (show M.ret (Dv.tup (cutW ws lo hi)) S = some (w, S') from hm)
    obtain ⟨a, xs, rfl, hx, da⟩ := dx
    refine sl_tupA pins s σ H _ v vl vu lo hi sl Q I rx hs pl pu ⟨a, xs, rfl, hx.sq, fun hw => ?_, fun hw p hp => ?_⟩
    · rw [da.length] at hw
      rw [cut_whole hw] at hq
      exact hq.self r ⟨a, xs, rfl, hx, da⟩
    · exact hq _ _ io (Kp.fresh hp) (r.fresh hp) (new_tup hp (dns_cut da))
  | _ => exact lists dx hm
theorem ed_slice {lo hi : Option Expr} {p2 : Pos} {m : En → M Dv} {n l : En → M (Option Int)} (ha : ED X a m) (hl : PD X lo n) (hu : PD X hi l) :
    ED X (.Subscript a (.Slice lo hi none p2) pos) (fun env => M.bind (m env) fun x => M.bind (n env) fun i => M.bind (l env) fun j => slD x i j) := ed_of (pe_slice sl_d ha hl hu) (by
  rintro σ H Q ⟨hd, env, S, io, w, S', r, en, hm, hq⟩
  obtain ⟨x, S1, h1, hm⟩ := M.bind_some hm
  obtain ⟨i, S2, h2, hm⟩ := M.bind_some hm
  obtain ⟨j, S3, h3, hm⟩ := M.bind_some hm
  refine ⟨hd, env, S, io, x, S1, r, en, h1, fun v H1 io1 k1 r1 d1 => ?_⟩
  refine ⟨hd, env, S1, io1, i, S2, r1, en.mono k1, h2, fun H2 io2 k2 r2 => ?_⟩
  refine ⟨hd, env, S2, io2, j, S3, r2, en.mono (k1.trans k2), h3, fun H3 io3 k3 r3 => ?_⟩
  exact ⟨hd, x, S3, io3, w, S', r3, Dn.mono (k2.trans k3) _ _ d1, hm, hq.after ((k1.trans k2).trans k3)⟩)
end
end DD
namespace DD
open PySem PySem.Spec PyProof.Rows L2
variable [IW : HasW]

/-! ## targets -/
/-- L: the slots that the target may write -/
def tDG (K : PySem.W.Frag) (L : List Nat) (g : Dv → En → M En) : TG := fun v σ H Q => ∃ hd env S io w env' S', Rst ⟨K, hd⟩ H io S ∧ EnOk ⟨K, hd⟩ H io S env σ ∧ Dn ⟨K, hd⟩ H io S w v ∧ g w env S = some (env', S') ∧
  ∀ σ' H' io', Kp ⟨K, hd⟩ H io S H' io' S' → Rst ⟨K, hd⟩ H' io' S' → EnOk ⟨K, hd⟩ H' io' S' env' σ' → wipe σ' L = wipe σ L → Q σ' H'
abbrev GD (X : Cx) (tg : Expr) (L : List Nat) (g : Dv → En → M En) : Prop := PG X tg (tDG X.K L g)
def tDGs (K : PySem.W.Frag) (L : List Nat) (g : List Dv → En → M En) : TGs := fun vs σ H Q => ∃ hd env S io ws env' S', Rst ⟨K, hd⟩ H io S ∧ EnOk ⟨K, hd⟩ H io S env σ ∧ Dns ⟨K, hd⟩ H io S ws vs ∧ g ws env S = some (env', S') ∧
  ∀ σ' H' io', Kp ⟨K, hd⟩ H io S H' io' S' → Rst ⟨K, hd⟩ H' io' S' → EnOk ⟨K, hd⟩ H' io' S' env' σ' → wipe σ' L = wipe σ L → Q σ' H'
abbrev GSD (X : Cx) (ts : List Expr) (L : List Nat) (g : List Dv → En → M En) : Prop := PGs X ts (tDGs X.K L g)
theorem wipe_set {σ : L2.St} {i : Nat} {v : Option V} : ∀ {L : List Nat}, i ∈ L → wipe (σ.set i v) L = wipe σ L
  | [], h => by cases h
  | l :: L, h => by
    by_cases e : l = i
    · subst e
      by_cases hm : l ∈ L
      · show (wipe (σ.set l v) L).set l none = (wipe σ L).set l none
        rw [wipe_set hm]
      · show (wipe (σ.set l v) L).set l none = (wipe σ L).set l none
        rw [wipe_out hm, List.set_set]
    · have hm : i ∈ L := by
        rcases List.mem_cons.mp h with z | z
        · exact absurd z.symm e
        · exact z
      show (wipe (σ.set i v) L).set l none = (wipe σ L).set l none
      rw [wipe_set hm]
where wipe_out {σ : L2.St} {i : Nat} {v : Option V} : ∀ {L : List Nat}, i ∉ L → wipe (σ.set i v) L = (wipe σ L).set i v
  | [], _ => rfl
  | l :: L, h => by
    have h1 : l ≠ i := fun z => h (by rw [z]; exact List.mem_cons_self)
    have h2 : i ∉ L := fun z => h (List.mem_cons_of_mem _ z)
    show (wipe (σ.set i v) L).set l none = ((wipe σ L).set l none).set i v
    rw [wipe_out h2, List.set_comm _ _ (Ne.symm h1)]
section
variable {X : Cx} {a b d e : Expr} {pos : Pos} {L : List Nat}
theorem gd_of {tg : Expr} {t : TG} {g : Dv → En → M En} (h : PG X tg t) (q : ∀ v σ H Q, tDG X.K L g v σ H Q → t v σ H Q) : GD X tg L g := ⟨fun pins s σ H v u Q I r hq => h.run pins s σ H v u Q I r (q v σ H Q hq)⟩
theorem gsd_of {tg : List Expr} {t : TGs} {g : List Dv → En → M En} (h : PGs X tg t) (q : ∀ v σ H Q, tDGs X.K L g v σ H Q → t v σ H Q) : GSD X tg L g := ⟨fun pins s σ H v u Q I r hq => h.run pins s σ H v u Q I r (q v σ H Q hq)⟩
def setE (i : Nat) (w : Dv) (env : En) : M En := M.ret (env.set i (some w))
theorem gd_name {i : Nat} (h : PG X e (gName i)) (hi : i ∈ L) : GD X e L (setE i) := gd_of h (by
  rintro v σ H Q ⟨hd, env, S, io, w, env', S', r, en, dw, hm, hq⟩
  obtain ⟨rfl, rfl⟩ := M.ret_some hm
  exact hq _ H io Kp.refl r (en.set dw) (wipe_set hi))
def gsNil (ws : List Dv) (env : En) : M En := match ws with
  | [] => M.ret env
  | _ => M.no
def gsCons (g : Dv → En → M En) (gs : List Dv → En → M En) (ws : List Dv) (env : En) : M En := match ws with
  | [] => M.no
  | w :: ws => M.bind (g w env) fun env => gs ws env
theorem gsd_nil : GSD X [] L gsNil := gsd_of pgs_nil (by
  rintro v σ H Q ⟨hd, env, S, io, ws, env', S', r, en, dw, hm, hq⟩
  unfold gsNil at hm
  split at hm
  · obtain ⟨rfl, rfl⟩ := M.ret_some hm
    exact ⟨dw, hq _ H io Kp.refl r en rfl⟩
  · cases hm)
theorem gsd_cons {es : List Expr} {g : Dv → En → M En} {gs : List Dv → En → M En} (h1 : GD X e L g) (h2 : GSD X es L gs)
    (hs : (assignEach (e :: es) X.env).map (·.2) = assign e X.env :: (assignEach es X.env).map (·.2) := by rfl) : GSD X (e :: es) L (gsCons g gs) := gsd_of (pgs_cons h1 h2 hs) (by
  rintro v σ H Q ⟨hd, env, S, io, ws, env', S', r, en, dw, hm, hq⟩
  unfold gsCons at hm
  split at hm
  · cases hm
  · obtain ⟨env1, S1, h1, hm⟩ := M.bind_some hm
    obtain ⟨v, vr, rfl, d1, d2⟩ := dw
    refine ⟨v, vr, rfl, hd, env, S, io, _, env1, S1, r, en, d1, h1, fun σ1 H1 io1 k1 r1 en1 w1 => ?_⟩
    exact ⟨hd, env1, S1, io1, _, env', S', r1, en1, Dns.mono k1 _ _ d2, hm, fun σ2 H2 io2 k2 r2 en2 w2 => hq σ2 H2 io2 (k1.trans k2) r2 en2 (w2.trans w1)⟩)
def tupG (n : Nat) (gs : List Dv → En → M En) (w : Dv) (env : En) : M En := match w with
  | .tup ws => if ws.length = n then gs ws env else M.no
  | _ => M.no
theorem gd_tup {es : List Expr} {j n : Nat} {gs : List Dv → En → M En} (hc : X.calm = true) (h : GSD X es L gs)
    (hn : (assignEach es X.env).length = n := by rfl) (hst : (assignEach es X.env).findIdx? (·.1) = none := by rfl) : GD X (.Tuple es j pos) L (tupG n gs) := gd_of (pg_tup hc h hn hst) (by
  rintro v σ H Q ⟨hd, env, S, io, w, env', S', r, en, dw, hm, hq⟩
  unfold tupG at hm
  split at hm
  · split at hm
    · rename_i ws hl
      obtain ⟨a, xs, rfl, hx, dx⟩ := dw
      exact ⟨a, xs, rfl, hx.sq, by rw [dx.length]; exact hl, hd, env, S, io, ws, env', S', r, en, dx, hm, hq⟩
    · cases hm
  · cases hm)
/-- o[i] = .., o a live list -/
def putG (o i w : Dv) : M Unit := match o, i with
  | .ref n, .int k => fun S => match stL S n with
    | some ws => match ixN ws.length k with
      | some j => some ((), S.set n (.lst (ws.set j w)))
      | none => none
    | none => none
  | _, _ => M.no
theorem gd_sub {m n : En → M Dv} (ho : ED X a m) (hi : ED X b n)
    (ha : ∀ v, assign (.Subscript a b pos) X.env v = (do
      let ov ← holding [v] (eval a X.env)
      let iv ← holding [v, ov] (eval b X.env)
      standAt pos
      holding [v, ov, iv] (setItem ov iv v)
      release [v, ov, iv] []) := by intro _; rfl) : GD X (.Subscript a b pos) L (fun w env => M.bind (m env) fun o => M.bind (n env) fun i => M.bind (putG o i w) fun _ => M.ret env) := gd_of (pg_sub ho hi set_list ha) (by
  rintro v σ H Q ⟨hd, env, S, io, w, env', S', r, en, dw, hm, hq⟩
  obtain ⟨o, S1, h1, hm⟩ := M.bind_some hm
  obtain ⟨i, S2, h2, hm⟩ := M.bind_some hm
  obtain ⟨_, S3, h3, hm⟩ := M.bind_some hm
  obtain ⟨rfl, rfl⟩ := M.ret_some hm
  refine ⟨hd, env', S, io, o, S1, r, en, h1, fun ov H1 io1 k1 r1 d1 => ?_⟩
  refine ⟨hd, env', S1, io1, i, S2, r1, en.mono k1, h2, fun iv H2 io2 k2 r2 d2 => ?_⟩
  unfold putG at h3
  split at h3
  · split at h3
    · rename_i ws hs
      split at h3
      · rename_i j hj
        cases h3
        have d1' := Dn.mono k2 _ _ d1
        obtain ⟨p, rfl, hp⟩ := d1'
        obtain ⟨p', xs, hp', hH, hz, dx⟩ := r2.obj _ ws (stL_some hs)
        rw [hp] at hp'; cases hp'
        refine ⟨p, xs, _, j, rfl, d2, hH, by rw [dx.length]; exact hj, ?_⟩
        have dw' := Dn.mono (k1.trans k2) _ _ dw
        have kk : Kp ⟨X.K, hd⟩ H2 io2 S2 (upd H2 p (.lst (xs.set j v))) io2 (S2.set _ (.lst (ws.set j w))) := Kp.put r2 (stL_some hs) hp
        exact hq _ _ io2 ((k1.trans k2).trans kk) (r2.put (stL_some hs) hp (dx.set j dw') (by rw [List.length_set]; exact hz)) (en.mono ((k1.trans k2).trans kk)) rfl
      · cases h3
    · cases h3
  · cases h3)
end

/-! ## statements -/
inductive Fl where
  | nx (env : En) | rt (w : Dv) | bk (env : En) | ct (env : En)
def FlP (c : Cf) (H : Hp) (io : List Addr) (S : Sto) (f : Fl) (S' : Sto) (D : Ends) : Prop := match f with
  | .nx env => ∀ σ' H' io', Kp c H io S H' io' S' → Rst c H' io' S' → EnOk c H' io' S' env σ' → D.nx σ' H'
  | .rt w => ∀ v H' io', Kp c H io S H' io' S' → Rst c H' io' S' → Dn c H' io' S' w v → D.rt v H'
  | .bk env => ∀ σ' H' io', Kp c H io S H' io' S' → Rst c H' io' S' → EnOk c H' io' S' env σ' → D.bk σ' H'
  | .ct env => ∀ σ' H' io', Kp c H io S H' io' S' → Rst c H' io' S' → EnOk c H' io' S' env σ' → D.ct σ' H'
theorem FlP.after {c : Cf} {H H1 : Hp} {io io1 : List Addr} {S S1 S' : Sto} {f : Fl} {D : Ends} (p : FlP c H io S f S' D) (k : Kp c H io S H1 io1 S1) : FlP c H1 io1 S1 f S' D := by
  cases f with
  | nx env => exact fun σ' H' io' k' r e => p σ' H' io' (k.trans k') r e
  | rt w => exact fun σ' H' io' k' r e => p σ' H' io' (k.trans k') r e
  | bk env => exact fun σ' H' io' k' r e => p σ' H' io' (k.trans k') r e
  | ct env => exact fun σ' H' io' k' r e => p σ' H' io' (k.trans k') r e
def tDS (K : PySem.W.Frag) (m : En → M Fl) : TS := fun D σ H => ∃ hd env S io f S', Rst ⟨K, hd⟩ H io S ∧ EnOk ⟨K, hd⟩ H io S env σ ∧ m env S = some (f, S') ∧ FlP ⟨K, hd⟩ H io S f S' D
abbrev SD (X : Cx) (st : Stmt) (m : En → M Fl) : Prop := PS X st (tDS X.K m)
abbrev BD (X : Cx) (sts : List Stmt) (m : En → M Fl) : Prop := PSs X sts (tDS X.K m)
section
variable {X : Cx} {a b d e : Expr} {pos : Pos} {st : Stmt} {sts : List Stmt} {L : List Nat}
theorem sd_of {t : TS} {m : En → M Fl} (h : PS X st t) (q : ∀ D σ H, tDS X.K m D σ H → t D σ H) : SD X st m := ⟨fun pins s σ H D I hq => h.run pins s σ H D I (q D σ H hq)⟩
theorem bd_of {t : TS} {m : En → M Fl} (h : PSs X sts t) (q : ∀ D σ H, tDS X.K m D σ H → t D σ H) : BD X sts m := ⟨fun pins s σ H D I hq => h.run pins s σ H D I (q D σ H hq)⟩
def nxD (env : En) : M Fl := M.ret (.nx env)
theorem bd_nil : BD X [] nxD := bd_of pss_nil (by
  rintro D σ H ⟨hd, env, S, io, f, S', r, en, hm, hq⟩
  obtain ⟨rfl, rfl⟩ := M.ret_some hm
  exact hq σ H io Kp.refl r en)
def seqD (m : M Fl) (n : En → M Fl) : M Fl := M.bind m fun f => match f with
  | .nx env => n env
  | f => M.ret f
theorem bd_cons {m n : En → M Fl} (h1 : SD X st m) (h2 : BD X sts n) : BD X (st :: sts) (fun env => seqD (m env) n) := bd_of (pss_cons h1 h2) (by
  rintro D σ H ⟨hd, env, S, io, f, S', r, en, hm, hq⟩
  obtain ⟨f1, S1, h1, hm⟩ := M.bind_some hm
  refine ⟨hd, env, S, io, f1, S1, r, en, h1, ?_⟩
  cases f1 with
  | nx env1 => exact fun σ1 H1 io1 k1 r1 en1 => ⟨hd, env1, S1, io1, f, S', r1, en1, hm, hq.after k1⟩
  | rt w => obtain ⟨rfl, rfl⟩ := M.ret_some hm; exact hq
  | bk env1 => obtain ⟨rfl, rfl⟩ := M.ret_some hm; exact hq
  | ct env1 => obtain ⟨rfl, rfl⟩ := M.ret_some hm; exact hq)
theorem bd_one {m : En → M Fl} (h1 : SD X st m) : BD X [st] m := bd_of (pss_one h1) fun _ _ _ h => h
def setS (i : Nat) (m : M Dv) (env : En) : M Fl := M.bind m fun w => M.ret (.nx (env.set i (some w)))
theorem sd_set {i : Nat} {m : En → M Dv} (h : PS X st (tAsg (tD X.K m) (gName i))) : SD X st (fun env => setS i (m env) env) := sd_of h (by
  rintro D σ H ⟨hd, env, S, io, f, S', r, en, hm, hq⟩
  obtain ⟨w, S1, h1, hm⟩ := M.bind_some hm
  obtain ⟨rfl, rfl⟩ := M.ret_some hm
  exact ⟨hd, env, S, io, w, _, r, en, h1, fun v H1 io1 k1 r1 d1 => hq _ H1 io1 k1 r1 ((en.mono k1).set d1)⟩)
def asgS (g : Dv → En → M En) (m : M Dv) (env : En) : M Fl := M.bind m fun w => M.bind (g w env) fun env => M.ret (.nx env)
theorem sd_asg {g : Dv → En → M En} {m : En → M Dv} (h : PS X st (tAsg (tD X.K m) (tDG X.K L g))) : SD X st (fun env => asgS g (m env) env) := sd_of h (by
  rintro D σ H ⟨hd, env, S, io, f, S', r, en, hm, hq⟩
  obtain ⟨w, S1, h1, hm⟩ := M.bind_some hm
  obtain ⟨env2, S2, h2, hm⟩ := M.bind_some hm
  obtain ⟨rfl, rfl⟩ := M.ret_some hm
  refine ⟨hd, env, S, io, w, S1, r, en, h1, fun v H1 io1 k1 r1 d1 => ?_⟩
  exact ⟨hd, env, S1, io1, w, env2, _, r1, en.mono k1, d1, h2, fun σ2 H2 io2 k2 r2 en2 _ => hq σ2 H2 io2 (k1.trans k2) r2 en2⟩)
def parS (i j : Nat) (m : M (List Dv)) (env : En) : M Fl := M.bind m fun ws => match ws with
  | [v, w] => M.ret (.nx ((env.set i (some v)).set j (some w)))
  | _ => M.no
theorem sd_par {i j : Nat} {m : En → M (List Dv)} (h : PS X st (tPar i j (tDA X.K m))) : SD X st (fun env => parS i j (m env) env) := sd_of h (by
  rintro D σ H ⟨hd, env, S, io, f, S', r, en, hm, hq⟩
  obtain ⟨ws, S1, h1, hm⟩ := M.bind_some hm
  split at hm
  · rename_i w1 w2
    obtain ⟨rfl, rfl⟩ := M.ret_some hm
    refine ⟨hd, env, S, io, _, _, r, en, h1, fun vs H1 io1 k1 r1 d1 => ?_⟩
    obtain ⟨v, vr, rfl, d1, v2, vr2, rfl, d2, e3⟩ := d1
    have e3 : vr2 = [] := e3
    subst e3
    exact ⟨v, v2, rfl, hq _ H1 io1 k1 r1 (((en.mono k1).set d1).set d2)⟩
  · cases hm)
/-- name op= e -/
def augS (i : Nat) (g : Dv → Dv → M Dv) (m : M Dv) (env : En) : M Fl := M.bind (rdE i env) fun x => M.bind m fun y => M.bind (g x y) fun z => M.ret (.nx (env.set i (some z)))
theorem sd_aug {i : Nat} {g : Dv → Dv → M Dv} {m : En → M Dv} (h : PS X st (tAug i (tD X.K m) (rD2 X.K g))) : SD X st (fun env => augS i g (m env) env) := sd_of h (by
  rintro D σ H ⟨hd, env, S, io, f, S', r, en, hm, hq⟩
  obtain ⟨x, S0, h0, hm⟩ := M.bind_some hm
  obtain ⟨y, S1, h1, hm⟩ := M.bind_some hm
  obtain ⟨z, S2, h2, hm⟩ := M.bind_some hm
  obtain ⟨rfl, rfl⟩ := M.ret_some hm
  unfold rdE at h0
  split at h0
  · rename_i w hw
    cases h0
    obtain ⟨v, e1, dv⟩ := en.2 i _ hw
    refine ⟨v, e1, hd, env, _, io, y, S1, r, en, h1, fun u H1 io1 k1 r1 d1 => ?_⟩
    exact ⟨hd, _, y, S1, io1, z, _, r1, Dn.mono k1 _ _ dv, d1, h2, fun u2 H2 io2 k2 r2 d2 => hq _ H2 io2 (k1.trans k2) r2 ((en.mono (k1.trans k2)).set d2)⟩
  · cases h0)
def ifS (t : M Bool) (m n : M Fl) : M Fl := M.bind t fun b => if b = true then m else n
theorem sd_if {c : Expr} {as bs : List Stmt} {t : En → M Bool} {m n : En → M Fl} (hc : TD X c t) (ha : BD X as m) (hb : BD X bs n) : SD X (.If c as bs pos) (fun env => ifS (t env) (m env) (n env)) := sd_of (ps_if hc ha hb) (by
  rintro D σ H ⟨hd, env, S, io, f, S', r, en, hm, hq⟩
  obtain ⟨c, S1, h1, hm⟩ := M.bind_some hm
  refine ⟨hd, env, S, io, c, S1, r, en, h1, fun H1 io1 k1 r1 => ?_⟩
  cases c with
  | true =>
    rw [if_pos rfl] at hm ⊢
    exact ⟨hd, env, S1, io1, f, S', r1, en.mono k1, hm, hq.after k1⟩
  | false =>
    rw [if_neg Bool.false_ne_true] at hm ⊢
    exact ⟨hd, env, S1, io1, f, S', r1, en.mono k1, hm, hq.after k1⟩)
def retS (m : M Dv) : M Fl := M.bind m fun w => M.ret (.rt w)
theorem sd_ret {m : En → M Dv} (h : ED X e m) : SD X (.Return (some e) pos) (fun env => retS (m env)) := sd_of (ps_ret h) (by
  rintro D σ H ⟨hd, env, S, io, f, S', r, en, hm, hq⟩
  obtain ⟨w, S1, h1, hm⟩ := M.bind_some hm
  obtain ⟨rfl, rfl⟩ := M.ret_some hm
  exact ⟨hd, env, S, io, w, _, r, en, h1, hq⟩)
theorem sd_retN : SD X (.Return none pos) (fun _ => M.ret (.rt .non)) := sd_of ps_retN (by
  rintro D σ H ⟨hd, env, S, io, f, S', r, en, hm, hq⟩
  obtain ⟨rfl, rfl⟩ := M.ret_some hm
  exact hq _ H io Kp.refl r rfl)
def exprS (m : M Dv) (env : En) : M Fl := M.bind m fun _ => M.ret (.nx env)
theorem sd_expr {m : En → M Dv} (h : PS X st (tDrop (tD X.K m))) : SD X st (fun env => exprS (m env) env) := sd_of h (by
  rintro D σ H ⟨hd, env, S, io, f, S', r, en, hm, hq⟩
  obtain ⟨w, S1, h1, hm⟩ := M.bind_some hm
  obtain ⟨rfl, rfl⟩ := M.ret_some hm
  exact ⟨hd, env, S, io, w, _, r, en, h1, fun v H1 io1 k1 r1 d1 => hq σ H1 io1 k1 r1 (en.mono k1)⟩)
theorem sd_pass : SD X (.Pass pos) nxD := sd_of ps_pass (by
  rintro D σ H ⟨hd, env, S, io, f, S', r, en, hm, hq⟩
  obtain ⟨rfl, rfl⟩ := M.ret_some hm
  exact hq σ H io Kp.refl r en)
theorem sd_break : SD X (.Break pos) (fun env => M.ret (.bk env)) := sd_of ps_break (by
  rintro D σ H ⟨hd, env, S, io, f, S', r, en, hm, hq⟩
  obtain ⟨rfl, rfl⟩ := M.ret_some hm
  exact hq σ H io Kp.refl r en)
theorem sd_continue : SD X (.Continue pos) (fun env => M.ret (.ct env)) := sd_of ps_continue (by
  rintro D σ H ⟨hd, env, S, io, f, S', r, en, hm, hq⟩
  obtain ⟨rfl, rfl⟩ := M.ret_some hm
  exact hq σ H io Kp.refl r en)
/-- a statement that is never come to -/
theorem sd_never : SD X st (fun _ => M.no) := sd_of ps_never (by
  rintro D σ H ⟨hd, env, S, io, f, S', r, en, hm, hq⟩
  cases hm)

/-! ## what is walked -/
structure Sr where
  ws : List Dv
  lv : Option Nat
open Classical in
noncomputable def chkB {α : Type} (s : Sr) (S : Sto) (k : Option α) : Option α := match s.lv with
  | none => k
  | some n => if stL S n = some s.ws then k else none
def Chk (s : Sr) (S : Sto) : Prop := ∀ n, s.lv = some n → stL S n = some s.ws
theorem chkB_some {α : Type} {s : Sr} {S : Sto} {k : Option α} {x : α} (h : chkB s S k = some x) : Chk s S ∧ k = some x := by
  unfold chkB at h
  split at h
  · rename_i e
    exact ⟨fun n e' => (by rw [e] at e'; cases e'), h⟩
  · rename_i n e
    split at h
    · rename_i hh
      exact ⟨fun m e' => (by rw [e] at e'; cases e'; exact hh), h⟩
    · cases h
theorem Kp.hd {K : PySem.W.Frag} {h1 h2 : List Addr} {H H' : Hp} {io io' : List Addr} {S S' : Sto} (k : Kp ⟨K, h1⟩ H io S H' io' S') : Kp ⟨K, h2⟩ H io S H' io' S' := ⟨k.tup, k.fx, k.keep, k.ref⟩
structure Wk (K : PySem.W.Frag) (hd0 : List Addr) (H0 : Hp) (io0 : List Addr) (S0 : Sto) (J : It) (s : Sr) (base : List Dv) (xs : List V) : Prop where
  stop : ∀ hd H io S i, Kp ⟨K, hd0⟩ H0 io0 S0 H io S → Rst ⟨K, hd⟩ H io S → Chk s S → i = s.ws.length → J.stop i H
  go : ∀ hd H io S i, Kp ⟨K, hd0⟩ H0 io0 S0 H io S → Rst ⟨K, hd⟩ H io S → Chk s S → i < s.ws.length → J.go i H
  yld : ∀ hd H io S i x H', Kp ⟨K, hd0⟩ H0 io0 S0 H io S → Rst ⟨K, hd⟩ H io S → Chk s S → Dns ⟨K, hd⟩ H io S base xs → i < s.ws.length → J.yld i H x H' →
    ∃ w, s.ws[i]? = some w ∧ (H' = H ∨ ∃ p o, H p = none ∧ H' = upd H p o) ∧ Dn ⟨K, hd⟩ H' io S w x
def tDI (K : PySem.W.Frag) (m : En → M Sr) : TI := fun σ H R => ∃ hd env S io s S', Rst ⟨K, hd⟩ H io S ∧ EnOk ⟨K, hd⟩ H io S env σ ∧ m env S = some (s, S') ∧
  ∀ H' io' J base xs, Kp ⟨K, hd⟩ H io S H' io' S' → Rst ⟨K, hd⟩ H' io' S' → Dns ⟨K, hd⟩ H' io' S' base xs → Wk K hd H' io' S' J s base xs → R J H'
abbrev ID (X : Cx) (tg iter : Expr) (m : En → M Sr) : Prop := PI X tg iter (tDI X.K m)
theorem id_of {tg iter : Expr} {wi : TI} {m : En → M Sr} (h : PI X tg iter wi) (q : ∀ σ H R, tDI X.K m σ H R → wi σ H R) : ID X tg iter m := ⟨fun pins s σ H R I hq => h.run pins s σ H R I (q σ H R hq)⟩
def srD (w : Dv) : M Sr := fun S => match w with
  | .ref n => match stL S n with
    | some ws => some (⟨ws, some n⟩, S)
    | none => none
  | w => match sqV S w with
    | some ws => some (⟨ws, none⟩, S)
    | none => none
def iSeq (K : PySem.W.Frag) (tl : TE) : TI := fun σ H R => tl σ H fun x H1 => ∃ a, x = .ref a ∧ (((∃ xs, SqL K H1 a xs) ∧ R (Itl K a) H1) ∨ ((∃ xs, SqT K H1 a xs) ∧ R (Itt K a) H1))
theorem pi_seq {l tg : Expr} {tl : TE} (hl : PE X l tl) : PI X tg l (iSeq X.K tl) := by
  refine ⟨fun pins s σ H R I h => ?_⟩
  refine thn (hl.run pins s σ H _ I h) fun v s1 ⟨x, H1, I1, r1, a, e, q⟩ => ?_
  subst e
  cases r1
  rcases q with ⟨⟨xs, hx⟩, q⟩ | ⟨⟨xs, hx⟩, q⟩
  · obtain ⟨its, rv, p, hz⟩ := I1.list hx
    refine wpAny_pyIter_list p.isList ⟨s1.heap.objs.size, [s1.heap.objs.size], _, _, H1, rfl, I1.kept (t' := s1.toks) fun b o e => Heap.get?_push_of_some _ e, turn_list a _, ⟨_, Heap.get?_push_size _ rfl, rfl, rfl⟩, fun b hb => ?_, q⟩
    cases List.mem_singleton.mp hb
    exact I1.fpOk (Nat.le_refl _) (I1.hok.fresh (Nat.le_refl _))
  · obtain ⟨its, rv, p, hz⟩ := I1.tuple hx
    refine wpAny_pyIter_tuple (show s1.heap.IsTuple a its.toArray from p) ⟨s1.heap.objs.size, [s1.heap.objs.size], _, _, H1, rfl, I1.kept (t' := s1.toks) fun b o e => Heap.get?_push_of_some _ e, turn_tuple a _, ⟨_, Heap.get?_push_size _ rfl, rfl, rfl⟩, fun b hb => ?_, q⟩
    cases List.mem_singleton.mp hb
    exact I1.fpOk (Nat.le_refl _) (I1.hok.fresh (Nat.le_refl _))
theorem wk_list {K : PySem.W.Frag} {hd0 : List Addr} {H0 : Hp} {io0 : List Addr} {S0 : Sto} {a : Addr} {xs : List V} {ws : List Dv} (hl : xs.length = ws.length) (hs : ∀ H io S, Kp ⟨K, hd0⟩ H0 io0 S0 H io S → SqL K H a xs) :
    Wk K hd0 H0 io0 S0 (Itl K a) ⟨ws, none⟩ ws xs where
  stop := fun hd H io S i k r ck h => ⟨xs, hs H io S k, by show xs.length ≤ i; have : i = ws.length := h; omega⟩
  go := fun hd H io S i k r ck h => ⟨xs, xs[i]'(by have : i < ws.length := h; omega), hs H io S k, by have : i < ws.length := h; simp [show i < xs.length by omega]⟩
  yld := fun hd H io S i x H' k r ck d hi y => by
    obtain ⟨e, y⟩ := y
    subst e
    obtain ⟨w, h1, h2⟩ := d.getV (y xs (hs _ io S k))
    exact ⟨w, h1, .inl rfl, h2⟩
theorem wk_tup {K : PySem.W.Frag} {hd0 : List Addr} {H0 : Hp} {io0 : List Addr} {S0 : Sto} {a : Addr} {xs : List V} {ws : List Dv} (hl : xs.length = ws.length) (hs : Tq K H0 a xs) :
    Wk K hd0 H0 io0 S0 (Itt K a) ⟨ws, none⟩ ws xs where
  stop := fun hd H io S i k r ck h => ⟨xs, (k.tup _ _ hs).sq, by show xs.length ≤ i; have : i = ws.length := h; omega⟩
  go := fun hd H io S i k r ck h => ⟨xs, xs[i]'(by have : i < ws.length := h; omega), (k.tup _ _ hs).sq, by have : i < ws.length := h; simp [show i < xs.length by omega]⟩
  yld := fun hd H io S i x H' k r ck d hi y => by
    obtain ⟨e, y⟩ := y
    subst e
    obtain ⟨w, h1, h2⟩ := d.getV (y xs (k.tup _ _ hs).sq)
    exact ⟨w, h1, .inl rfl, h2⟩
theorem wk_live {K : PySem.W.Frag} {hd0 : List Addr} {H0 : Hp} {io0 : List Addr} {S0 : Sto} {a : Addr} {n : Nat} {ws : List Dv} (hn : io0[n]? = some a) : Wk K hd0 H0 io0 S0 (Itl K a) ⟨ws, some n⟩ [] [] := by
  have key : ∀ {hd H io S}, Kp ⟨K, hd0⟩ H0 io0 S0 H io S → Rst ⟨K, hd⟩ H io S → Chk ⟨ws, some n⟩ S → ∃ xs, H a = some (.lst xs) ∧ Dns ⟨K, hd⟩ H io S ws xs := fun {hd H io S} k r ck => by
    obtain ⟨b, xs, hb, hH, hz, dx⟩ := r.obj n ws (stL_some (ck n rfl))
    rw [k.ref n a hn] at hb; cases hb
    exact ⟨xs, hH, dx⟩
  refine ⟨fun hd H io S i k r ck h => ?_, fun hd H io S i k r ck h => ?_, fun hd H io S i x H' k r ck d hi y => ?_⟩
  · obtain ⟨xs, h1, h2⟩ := key k r ck
    exact ⟨xs, .of h1, by rw [h2.length]; exact Nat.le_of_eq h.symm⟩
  · obtain ⟨xs, h1, h2⟩ := key k r ck
    have hl := h2.length
    have hi : i < ws.length := h
    exact ⟨xs, xs[i]'(by omega), .of h1, by simp [show i < xs.length by omega]⟩
  · obtain ⟨e, y⟩ := y
    subst e
    obtain ⟨xs, h1, h2⟩ := key k r ck
    obtain ⟨w, h3, h4⟩ := h2.getV (y xs (.of h1))
    exact ⟨w, h3, .inl rfl, h4⟩
theorem id_seq {l tg : Expr} {m : En → M Dv} (h : ED X l m) : ID X tg l (fun env => M.bind (m env) srD) := id_of (pi_seq h) (by
  rintro σ H R ⟨hd, env, S, io, s, S', r, en, hm, hq⟩
  obtain ⟨w, S1, h1, hm⟩ := M.bind_some hm
  refine ⟨hd, env, S, io, w, S1, r, en, h1, fun v H1 io1 k1 r1 d1 => ?_⟩
  unfold srD at hm
  split at hm
  · rename_i n
    split at hm
    · rename_i ws hs
      cases hm
      obtain ⟨a, rfl, ha⟩ := d1
      obtain ⟨b, xs, hb, hH, hz, dx⟩ := r1.obj n ws (stL_some hs)
      rw [ha] at hb; cases hb
      exact ⟨a, rfl, .inl ⟨⟨xs, .of hH⟩, hq H1 io1 _ [] [] k1 r1 rfl (wk_live ha)⟩⟩
    · cases hm
  · rename_i hnr
    split at hm
    · rename_i ws hs
      cases hm
      cases w with
      | tup us =>
        cases hs
        obtain ⟨a, xs, rfl, hx, dx⟩ := d1
        exact ⟨a, rfl, .inr ⟨⟨xs, hx.sq⟩, hq H1 io1 _ _ xs k1 r1 dx (wk_tup dx.length hx)⟩⟩
      | kls us =>
        cases hs
        obtain ⟨a, xs, rfl, hx, dx⟩ := d1
        exact ⟨a, rfl, .inl ⟨⟨xs, hx.sq⟩, hq H1 io1 _ _ xs k1 r1 dx (wk_list dx.length fun H io S k => (k.fx _ _ hx).sq)⟩⟩
      | lst us =>
        cases hs
        obtain ⟨a, xs, rfl, hx, hl, _, _, dx⟩ := d1
        exact ⟨a, rfl, .inl ⟨⟨xs, .of hx⟩, hq H1 io1 _ _ xs k1 r1 dx (wk_list dx.length fun H io S k => .of (k.keep _ _ hx hl).1)⟩⟩
      | ref n => exact absurd rfl (hnr n)
      | _ => cases hs
    · cases hm)
/-- lo, lo + 1, .. -/
def rngW (lo : Int) (n : Nat) : List Dv := (List.range n).map fun i => .int (lo + (i : Nat))
theorem wk_rng {K : PySem.W.Frag} {hd0 : List Addr} {H0 : Hp} {io0 : List Addr} {S0 : Sto} {lo : Int} {n : Nat} : Wk K hd0 H0 io0 S0 (Itr lo n) ⟨rngW lo n, none⟩ [] [] := by
  have hl : (rngW lo n).length = n := by simp [rngW]
  refine ⟨fun hd H io S i k r ck h => ?_, fun hd H io S i k r ck h => ?_, fun hd H io S i x H' k r ck d hi y => ?_⟩
  · exact Nat.le_trans (Nat.le_of_eq hl.symm) (Nat.le_of_eq h.symm)
  · exact Nat.lt_of_lt_of_le h (Nat.le_of_eq hl)
  · obtain ⟨e, rfl⟩ := y
    subst e
    have hi' : i < n := Nat.lt_of_lt_of_le hi (Nat.le_of_eq hl)
    exact ⟨.int (lo + (i : Nat)), by simp [rngW, hi'], .inl rfl, rfl⟩
def rng1 (m : M (List Dv)) : M Sr := M.bind m fun ws S => match ws with
  | [.int j] => if -(2 ^ 62) ≤ j ∧ j < 2 ^ 62 then some (⟨rngW 0 j.toNat, none⟩, S) else none
  | _ => none
def rng2 (m : M (List Dv)) : M Sr := M.bind m fun ws S => match ws with
  | [.int i, .int j] => if -(2 ^ 62) ≤ i ∧ i < 2 ^ 62 ∧ -(2 ^ 62) ≤ j ∧ j < 2 ^ 62 then some (⟨rngW i (j - i).toNat, none⟩, S) else none
  | _ => none
theorem id_rng1 {tg iter : Expr} {m : En → M (List Dv)} (h : PI X tg iter (iRng1 (tDA X.K m))) : ID X tg iter (fun env => rng1 (m env)) := id_of h (by
  rintro σ H R ⟨hd, env, S, io, s, S', r, en, hm, hq⟩
  obtain ⟨ws, S1, h1, hm⟩ := M.bind_some hm
  split at hm
  · obtain ⟨hc, e⟩ := if_some hm
    cases e
    refine ⟨hd, env, S, io, _, _, r, en, h1, fun vs H1 io1 k1 r1 d1 => ?_⟩
    obtain ⟨v, vr, rfl, d1, e3⟩ := d1
    have e3 : vr = [] := e3
    subst e3
    exact ⟨_, by rw [show v = .int _ from d1], hc.1, hc.2, hq H1 io1 _ [] [] k1 r1 rfl wk_rng⟩
  · cases hm)
theorem id_rng2 {tg iter : Expr} {m : En → M (List Dv)} (h : PI X tg iter (iRng2 (tDA X.K m))) : ID X tg iter (fun env => rng2 (m env)) := id_of h (by
  rintro σ H R ⟨hd, env, S, io, s, S', r, en, hm, hq⟩
  obtain ⟨ws, S1, h1, hm⟩ := M.bind_some hm
  split at hm
  · obtain ⟨hc, e⟩ := if_some hm
    cases e
    refine ⟨hd, env, S, io, _, _, r, en, h1, fun vs H1 io1 k1 r1 d1 => ?_⟩
    obtain ⟨v, vr, rfl, d1, v2, vr2, rfl, d2, e3⟩ := d1
    have e3 : vr2 = [] := e3
    subst e3
    exact ⟨_, _, by rw [show v = .int _ from d1, show v2 = .int _ from d2], hc, hq H1 io1 _ [] [] k1 r1 rfl wk_rng⟩
  · cases hm)

/-! ## for -/
noncomputable def forM (g : Dv → En → M En) (b : En → M Fl) (s : Sr) : List Dv → En → M Fl
  | [], env => fun S => chkB s S (some (.nx env, S))
  | x :: xs, env => fun S => chkB s S (M.bind (g x env) (fun e1 => M.bind (b e1) fun f => match f with
    | .nx e => forM g b s xs e
    | .ct e => forM g b s xs e
    | .bk e => M.ret (.nx e)
    | .rt w => M.ret (.rt w)) S)
noncomputable def forD (m : M Sr) (g : Dv → En → M En) (b : En → M Fl) (env : En) : M Fl := M.bind m fun s => forM g b s s.ws env
theorem Kp.laid {c : Cf} {H H' : Hp} {io : List Addr} {S : Sto} (h : H' = H ∨ ∃ p o, H p = none ∧ H' = upd H p o) : Kp c H io S H' io S := by
  rcases h with rfl | ⟨p, o, hp, rfl⟩
  · exact Kp.refl
  · exact Kp.fresh hp
theorem Rst.laid {c : Cf} {H H' : Hp} {io : List Addr} {S : Sto} (r : Rst c H io S) (h : H' = H ∨ ∃ p o, H p = none ∧ H' = upd H p o) : Rst c H' io S := by
  rcases h with rfl | ⟨p, o, hp, rfl⟩
  · exact r
  · exact r.fresh hp
theorem sd_for {tg iter : Expr} {body : List Stmt} {m : En → M Sr} {g : Dv → En → M En} {b : En → M Fl} (hp : PassesOwn (model X.prog X.w) X.A X.env X.xe) (hc : X.calm = true) (hi : ID X tg iter m) (hg : GD X tg L g) (hb : BD X body b)
    (hs : ∀ x, foldedSetIterable iter X.env x = pure x := by intro _; rfl) : SD X (.For tg iter body [] pos) (fun env => forD (m env) g b env) := sd_of (ps_for hp hc hi hg hb hs) (by
  rintro D σ H ⟨hd, env, S, io, f, Sf, r, en, hm, hq⟩
  obtain ⟨s, S1, h1, hm⟩ := M.bind_some hm
  refine ⟨hd, env, S, io, s, S1, r, en, h1, fun H0 io0 J base xs k0 r0 d0 wk => ?_⟩
  have hq0 := hq.after k0
  refine ⟨fun i m σ H => ∃ io S env, m = s.ws.length - i ∧ i ≤ s.ws.length ∧ Kp ⟨X.K, hd⟩ H0 io0 S1 H io S ∧ Rst ⟨X.K, hd⟩ H io S ∧ EnOk ⟨X.K, hd⟩ H io S env σ ∧ forM g b s (s.ws.drop i) env S = some (f, Sf),
    ⟨s.ws.length, io0, S1, env, by simp, Nat.zero_le _, Kp.refl, r0, en.mono k0, hm⟩, ?_⟩
  rintro i mm σ1 H1 ⟨io1, S2, env1, rfl, hi, k1, r1, en1, hf⟩
  by_cases hlt : i < s.ws.length
  · rw [List.drop_eq_getElem_cons hlt] at hf
    unfold forM at hf
    obtain ⟨ck, hf⟩ := chkB_some hf
    refine .inr ⟨wk.go _ _ _ _ _ k1 r1 ck hlt, fun σ' H' => ∃ io S env, Kp ⟨X.K, hd⟩ H0 io0 S1 H' io S ∧ Rst ⟨X.K, hd⟩ H' io S ∧ EnOk ⟨X.K, hd⟩ H' io S env σ' ∧ forM g b s (s.ws.drop (i + 1)) env S = some (f, Sf), fun σ' H' ⟨io', S', env', z1, z2, z3, z4⟩ => ⟨s.ws.length - (i + 1), by omega, io', S', env', rfl, hlt, z1, z2, z3, z4⟩, fun x H' y => ?_⟩
    obtain ⟨w, hw, hl, dw⟩ := wk.yld _ _ _ _ _ _ _ k1 r1 ck (Dns.mono k1 _ _ d0) hlt y
    rw [List.getElem?_eq_getElem hlt] at hw
    cases hw
    obtain ⟨e1, S3, h3, hf⟩ := M.bind_some hf
    obtain ⟨fl, S4, h4, hf⟩ := M.bind_some hf
    have kl : Kp ⟨X.K, hd⟩ H1 io1 S2 H' io1 S2 := Kp.laid hl
    refine ⟨hd, env1, S2, io1, _, e1, S3, r1.laid hl, en1.mono kl, dw, h3, fun σ2 H2 io2 k2 r2 en2 _ => ?_⟩
    refine ⟨hd, e1, S3, io2, fl, S4, r2, en2, h4, ?_⟩
    have kk := (k1.trans kl).trans k2
    cases fl with
    | nx e => exact fun σ3 H3 io3 k3 r3 en3 => ⟨io3, S4, e, kk.trans k3, r3, en3, hf⟩
    | ct e => exact fun σ3 H3 io3 k3 r3 en3 => ⟨io3, S4, e, kk.trans k3, r3, en3, hf⟩
    | bk e =>
      obtain ⟨rfl, rfl⟩ := M.ret_some hf
      exact fun σ3 H3 io3 k3 r3 en3 => hq0 σ3 H3 io3 (kk.trans k3) r3 en3
    | rt w =>
      obtain ⟨rfl, rfl⟩ := M.ret_some hf
      exact fun σ3 H3 io3 k3 r3 en3 => hq0 σ3 H3 io3 (kk.trans k3) r3 en3
  · rw [List.drop_eq_nil_of_le (by omega)] at hf
    unfold forM at hf
    obtain ⟨ck, hf⟩ := chkB_some hf
    cases hf
    exact .inl ⟨wk.stop _ _ _ _ _ k1 r1 ck (by omega), hq0 σ1 H1 io1 k1 r1 en1⟩)

/-! ## while -/
def whN (t : En → M Bool) (b : En → M Fl) : Nat → En → M Fl
  | 0, _ => M.no
  | n + 1, env => M.bind (t env) fun c => if c = true then M.bind (b env) (fun f => match f with
    | .nx e => whN t b n e
    | .ct e => whN t b n e
    | .bk e => M.ret (.nx e)
    | .rt w => M.ret (.rt w)) else M.ret (.nx env)
open Classical in
noncomputable def whD (t : En → M Bool) (b : En → M Fl) (env : En) : M Fl := fun S => if h : ∃ n r, whN t b n env S = some r then some h.choose_spec.choose else none
theorem whN_mono {t : En → M Bool} {b : En → M Fl} : ∀ {n : Nat} {env : En} {S : Sto} {r : Fl × Sto}, whN t b n env S = some r → whN t b (n + 1) env S = some r
  | 0, _, _, _, h => by cases h
  | n + 1, env, S, (f, S'), h => by
    unfold whN at h ⊢
    obtain ⟨c, S1, h1, h⟩ := M.bind_some h
    rw [M.bind_of h1]
    cases c with
    | false => exact h
    | true =>
      rw [if_pos rfl] at h ⊢
      obtain ⟨fl, S2, h2, h⟩ := M.bind_some h
      rw [M.bind_of h2]
      cases fl with
      | nx e => exact whN_mono h
      | ct e => exact whN_mono h
      | bk e => exact h
      | rt w => exact h
theorem whN_le {t : En → M Bool} {b : En → M Fl} {n : Nat} {env : En} {S : Sto} {r : Fl × Sto} (h : whN t b n env S = some r) : ∀ k, whN t b (n + k) env S = some r
  | 0 => h
  | k + 1 => whN_mono (whN_le h k)
theorem whD_of {t : En → M Bool} {b : En → M Fl} {n : Nat} {env : En} {S : Sto} {r : Fl × Sto} (h : whN t b n env S = some r) : whD t b env S = some r := by
  unfold whD
  have hh : ∃ n r, whN t b n env S = some r := ⟨n, r, h⟩
  rw [dif_pos hh]
  have h2 := hh.choose_spec.choose_spec
  have h3 := whN_le h hh.choose
  have h4 := whN_le h2 n
  rw [Nat.add_comm, h3] at h4
  exact h4.symm
theorem whD_some {t : En → M Bool} {b : En → M Fl} {env : En} {S : Sto} {r : Fl × Sto} (h : whD t b env S = some r) : ∃ n, whN t b n env S = some r := by
  unfold whD at h
  split at h
  · rename_i hh
    refine ⟨hh.choose, ?_⟩
    rw [hh.choose_spec.choose_spec]
    exact h
  · cases h
theorem sd_while {c : Expr} {body : List Stmt} {t : En → M Bool} {b : En → M Fl} (hp : PassesOwn (model X.prog X.w) X.A X.env X.xe) (hc : TD X c t) (hb : BD X body b) : SD X (.While c body [] pos) (whD t b) := sd_of (ps_while hp hc hb) (by
  rintro D σ H ⟨hd, env, S, io, f, Sf, r, en, hm, hq⟩
  obtain ⟨n, hn⟩ := whD_some hm
  refine ⟨fun m σ' H' => ∃ io' S' env', Kp ⟨X.K, hd⟩ H io S H' io' S' ∧ Rst ⟨X.K, hd⟩ H' io' S' ∧ EnOk ⟨X.K, hd⟩ H' io' S' env' σ' ∧ whN t b m env' S' = some (f, Sf), ⟨n, io, S, env, Kp.refl, r, en, hn⟩, ?_⟩
  rintro m σ1 H1 ⟨io1, S1, env1, k1, r1, en1, h1⟩
  cases m with
  | zero => cases h1
  | succ m =>
    unfold whN at h1
    obtain ⟨c, S2, h2, h1⟩ := M.bind_some h1
    refine ⟨hd, env1, S1, io1, c, S2, r1, en1, h2, fun H2 io2 k2 r2 => ?_⟩
    cases c with
    | false =>
      rw [if_neg Bool.false_ne_true] at h1 ⊢
      obtain ⟨rfl, rfl⟩ := M.ret_some h1
      exact hq σ1 H2 io2 (k1.trans k2) r2 (en1.mono k2)
    | true =>
      rw [if_pos rfl] at h1 ⊢
      obtain ⟨fl, S3, h3, h1⟩ := M.bind_some h1
      refine ⟨fun σ' H' => ∃ io' S' env', Kp ⟨X.K, hd⟩ H io S H' io' S' ∧ Rst ⟨X.K, hd⟩ H' io' S' ∧ EnOk ⟨X.K, hd⟩ H' io' S' env' σ' ∧ whN t b m env' S' = some (f, Sf), fun σ' H' z => ⟨m, Nat.lt_succ_self m, z⟩, hd, env1, S2, io2, fl, S3, r2, en1.mono k2, h3, ?_⟩
      have kk := k1.trans k2
      cases fl with
      | nx e => exact fun σ3 H3 io3 k3 r3 en3 => ⟨io3, S3, e, kk.trans k3, r3, en3, h1⟩
      | ct e => exact fun σ3 H3 io3 k3 r3 en3 => ⟨io3, S3, e, kk.trans k3, r3, en3, h1⟩
      | bk e =>
        obtain ⟨rfl, rfl⟩ := M.ret_some h1
        exact fun σ3 H3 io3 k3 r3 en3 => hq σ3 H3 io3 (kk.trans k3) r3 en3
      | rt w =>
        obtain ⟨rfl, rfl⟩ := M.ret_some h1
        exact fun σ3 H3 io3 k3 r3 en3 => hq σ3 H3 io3 (kk.trans k3) r3 en3)
end
end DD
namespace DD
open PySem PySem.Spec PyProof.Rows L2
variable [IW : HasW]

/-! ## list comprehensions -/
section
variable {K : PySem.W.Frag} {hd : List Addr} {H H' : Hp} {io : List Addr} {S : Sto} {D : Addr}
mutual
theorem Dn.hide (h : H D = none) : ∀ (w : Dv) (v : V), Dn ⟨K, hd⟩ H io S w v → Dn ⟨K, D :: hd⟩ H io S w v
  | .non, v, q => q
  | .bl _, v, q => q
  | .int _, v, q => q
  | .str _, v, q => q
  | .ty _, v, q => q
  | .fx _, v, q => q
  | .tup ws, v, q => by
    obtain ⟨a, xs, e, h1, h2⟩ := q
    exact ⟨a, xs, e, h1, Dns.hide h ws xs h2⟩
  | .lst ws, v, q => by
    obtain ⟨a, xs, e, h1, h2, h3, h4, h5⟩ := q
    refine ⟨a, xs, e, h1, h2, fun z => ?_, h4, Dns.hide h ws xs h5⟩
    rcases List.mem_cons.mp z with z | z
    · exact ne_of_none h1 h z
    · exact h3 z
  | .kls ws, v, q => by
    obtain ⟨a, xs, e, h1, h2⟩ := q
    exact ⟨a, xs, e, h1, Dns.hide h ws xs h2⟩
  | .ref n, v, q => q
  | .dct ks vs, v, q => by
    obtain ⟨a, xs, us, e, h1, h2, h3, hn, hk, hv, hd⟩ := q
    refine ⟨a, xs, us, e, h1, h2, fun z => ?_, hn, Dns.hide h ks _ hk, hv, Dns.hide h vs us hd⟩
    rcases List.mem_cons.mp z with z | z
    · exact ne_of_none h1 h z
    · exact h3 z
  | .dck ks vs, v, q => by
    obtain ⟨a, us, e, h1, h2, h3, hl, hn, hd⟩ := q
    refine ⟨a, us, e, h1, h2, fun z => ?_, hl, hn, Dns.hide h vs us hd⟩
    rcases List.mem_cons.mp z with z | z
    · exact ne_of_none h1 h z
    · exact h3 z
  | .cl _, v, q => q
  | .sti ns, v, q => by
    obtain ⟨a, e, h1, h2, h3, h4⟩ := q
    refine ⟨a, e, h1, h2, fun z => ?_, h4⟩
    rcases List.mem_cons.mp z with z | z
    · exact ne_of_none h1 h z
    · exact h3 z
  | .stt nss, v, q => by
    obtain ⟨a, L, e, h1, h2, h3, h4⟩ := q
    refine ⟨a, L, e, h1, h2, fun z => ?_, h4⟩
    rcases List.mem_cons.mp z with z | z
    · exact ne_of_none h1 h z
    · exact h3 z
  | .ob cl fs vs, v, q => by
    obtain ⟨a, C, dx, us, e, hc, h1, h2, h3, hl, hd⟩ := q
    refine ⟨a, C, dx, us, e, hc, h1, h2, fun z => ?_, hl, Dns.hide h vs us hd⟩
    rcases List.mem_cons.mp z with z | z
    · exact ne_of_none h1 h z
    · exact h3 z
theorem Dns.hide (h : H D = none) : ∀ (ws : List Dv) (vs : List V), Dns ⟨K, hd⟩ H io S ws vs → Dns ⟨K, D :: hd⟩ H io S ws vs
  | [], v, q => q
  | w :: ws, v, q => by
    obtain ⟨v, vr, e, h1, h2⟩ := q
    exact ⟨v, vr, e, Dn.hide h w v h1, Dns.hide h ws vr h2⟩
end
mutual
theorem Dn.show : ∀ (w : Dv) (v : V), Dn ⟨K, D :: hd⟩ H io S w v → Dn ⟨K, hd⟩ H io S w v
  | .non, v, q => q
  | .bl _, v, q => q
  | .int _, v, q => q
  | .str _, v, q => q
  | .ty _, v, q => q
  | .fx _, v, q => q
  | .tup ws, v, q => by
    obtain ⟨a, xs, e, h1, h2⟩ := q
    exact ⟨a, xs, e, h1, Dns.show ws xs h2⟩
  | .lst ws, v, q => by
    obtain ⟨a, xs, e, h1, h2, h3, h4, h5⟩ := q
    exact ⟨a, xs, e, h1, h2, fun z => h3 (List.mem_cons_of_mem _ z), h4, Dns.show ws xs h5⟩
  | .kls ws, v, q => by
    obtain ⟨a, xs, e, h1, h2⟩ := q
    exact ⟨a, xs, e, h1, Dns.show ws xs h2⟩
  | .ref n, v, q => q
  | .dct ks vs, v, q => by
    obtain ⟨a, xs, us, e, h1, h2, h3, hn, hk, hv, hd⟩ := q
    exact ⟨a, xs, us, e, h1, h2, fun z => h3 (List.mem_cons_of_mem _ z), hn, Dns.show ks _ hk, hv, Dns.show vs us hd⟩
  | .dck ks vs, v, q => by
    obtain ⟨a, us, e, h1, h2, h3, hl, hn, hd⟩ := q
    exact ⟨a, us, e, h1, h2, fun z => h3 (List.mem_cons_of_mem _ z), hl, hn, Dns.show vs us hd⟩
  | .cl _, v, q => q
  | .sti ns, v, q => by
    obtain ⟨a, e, h1, h2, h3, h4⟩ := q
    exact ⟨a, e, h1, h2, fun z => h3 (List.mem_cons_of_mem _ z), h4⟩
  | .stt nss, v, q => by
    obtain ⟨a, L, e, h1, h2, h3, h4⟩ := q
    exact ⟨a, L, e, h1, h2, fun z => h3 (List.mem_cons_of_mem _ z), h4⟩
  | .ob cl fs vs, v, q => by
    obtain ⟨a, C, dx, us, e, hc, h1, h2, h3, hl, hd⟩ := q
    exact ⟨a, C, dx, us, e, hc, h1, h2, fun z => h3 (List.mem_cons_of_mem _ z), hl, Dns.show vs us hd⟩
theorem Dns.show : ∀ (ws : List Dv) (vs : List V), Dns ⟨K, D :: hd⟩ H io S ws vs → Dns ⟨K, hd⟩ H io S ws vs
  | [], v, q => q
  | w :: ws, v, q => by
    obtain ⟨v, vr, e, h1, h2⟩ := q
    exact ⟨v, vr, e, Dn.show w v h1, Dns.show ws vr h2⟩
end
mutual
theorem Dn.updD {acc xs' : List V} (hD : H D = some (.lst acc)) : ∀ (w : Dv) (v : V), Dn ⟨K, D :: hd⟩ H io S w v → Dn ⟨K, D :: hd⟩ (upd H D (.lst xs')) io S w v
  | .non, v, q => q
  | .bl _, v, q => q
  | .int _, v, q => q
  | .str _, v, q => q
  | .ty _, v, q => q
  | .fx _, v, q => q
  | .tup ws, v, q => by
    obtain ⟨a, xs, e, h1, h2⟩ := q
    exact ⟨a, xs, e, h1.mv fun h1 => by rw [upd_ne (ne_of h1 hD (fun z => nomatch z))]; exact h1, Dns.updD hD ws xs h2⟩
  | .lst ws, v, q => by
    obtain ⟨a, xs, e, h1, h2, h3, h4, h5⟩ := q
    exact ⟨a, xs, e, by rw [upd_ne (fun z : a = D => h3 (by rw [z]; exact List.mem_cons_self))]; exact h1, h2, h3, h4, Dns.updD hD ws xs h5⟩
  | .kls ws, v, q => by
    obtain ⟨a, xs, e, h1, h2⟩ := q
    exact ⟨a, xs, e, h1.mv fun o h1 => by rw [upd_ne (ne_of h1 hD (fun z => nomatch z))]; exact h1, Dns.updD hD ws xs h2⟩
  | .ref n, v, q => q
  | .dct ks vs, v, q => by
    obtain ⟨a, xs, us, e, h1, h2, h3, hn, hk, hv, hd⟩ := q
    exact ⟨a, xs, us, e, by rw [upd_ne (fun z : a = D => h3 (by rw [z]; exact List.mem_cons_self))]; exact h1, h2, h3, hn, Dns.updD hD ks _ hk, hv, Dns.updD hD vs us hd⟩
  | .dck ks vs, v, q => by
    obtain ⟨a, us, e, h1, h2, h3, hl, hn, hd⟩ := q
    exact ⟨a, us, e, by rw [upd_ne (fun z : a = D => h3 (by rw [z]; exact List.mem_cons_self))]; exact h1, h2, h3, hl, hn, Dns.updD hD vs us hd⟩
  | .cl _, v, q => q
  | .sti ns, v, q => by
    obtain ⟨a, e, h1, h2, h3, h4⟩ := q
    exact ⟨a, e, by rw [upd_ne (fun z : a = D => h3 (by rw [z]; exact List.mem_cons_self))]; exact h1, h2, h3, h4⟩
  | .stt nss, v, q => by
    obtain ⟨a, L, e, h1, h2, h3, hp, ht⟩ := q
    exact ⟨a, L, e, by rw [upd_ne (fun z : a = D => h3 (by rw [z]; exact List.mem_cons_self))]; exact h1, h2, h3, hp, fun p q => (ht p q).mv fun h1 => by rw [upd_ne (ne_of h1 hD (fun z => nomatch z))]; exact h1⟩
  | .ob cl fs vs, v, q => by
    obtain ⟨a, C, dx, us, e, hc, h1, h2, h3, hl, hd⟩ := q
    exact ⟨a, C, dx, us, e, hc, by rw [upd_ne (fun z : a = D => h3 (by rw [z]; exact List.mem_cons_self))]; exact h1, h2, h3, hl, Dns.updD hD vs us hd⟩
theorem Dns.updD {acc xs' : List V} (hD : H D = some (.lst acc)) : ∀ (ws : List Dv) (vs : List V), Dns ⟨K, D :: hd⟩ H io S ws vs → Dns ⟨K, D :: hd⟩ (upd H D (.lst xs')) io S ws vs
  | [], v, q => q
  | w :: ws, v, q => by
    obtain ⟨v, vr, e, h1, h2⟩ := q
    exact ⟨v, vr, e, Dn.updD hD w v h1, Dns.updD hD ws vr h2⟩
end
/-- the parts of a live thing -/
def MO.all (p : List Dv → Prop) : MO → Prop
  | .lst ws => p ws
  | .dct ks vs => p ks ∧ p vs
  | .dck _ vs => p vs
  | .ob _ _ vs => p vs
  | .gone => True
theorem MO.all_of {p : List Dv → Prop} (h : ∀ ws, p ws) (o : MO) : o.all p := by
  cases o with
  | lst ws => exact h ws
  | dct ks vs => exact ⟨h ks, h vs⟩
  | dck ks vs => exact h vs
  | ob cl fs vs => exact h vs
  | gone => trivial
theorem Fit.map {c c' : Cf} {H H' : Hp} {io io' : List Addr} {S S' : Sto} {a : Addr} {o : MO} {u : HO} {p : List Dv → Prop} (h : ∀ ws vs, p ws → Dns c H io S ws vs → Dns c' H' io' S' ws vs) (ho : o.all p) (f : Fit c H io S a o u) : Fit c' H' io' S' a o u := by
  cases o with
  | lst ws => obtain ⟨xs, e, hz, d⟩ := f; exact ⟨xs, e, hz, h _ _ ho d⟩
  | dct ks vs => obtain ⟨xs, us, e, hn, hk, hv, hd⟩ := f; exact ⟨xs, us, e, hn, h _ _ ho.1 hk, hv, h _ _ ho.2 hd⟩
  | dck ks vs => obtain ⟨us, e, hl, hn, hd⟩ := f; exact ⟨us, e, hl, hn, h _ _ ho hd⟩
  | ob cl fs vs => obtain ⟨C, dx, us, hc, e, hl, hd⟩ := f; exact ⟨C, dx, us, hc, e, hl, h _ _ ho hd⟩
  | gone => exact f
theorem Rst.hide (r : Rst ⟨K, hd⟩ H io S) (h : H D = none) : Rst ⟨K, D :: hd⟩ (upd H D (.lst [])) io S := by
  have r' := r.fresh (o := .lst []) h
  refine ⟨r'.len, r'.nd, r'.trk, fun a ha => ?_, fun n o s ho => ?_⟩
  · rcases List.mem_cons.mp ha with rfl | ha
    · exact ⟨by rw [upd_same]; exact (fun z => nomatch z), fun z => r.trk _ z h⟩
    · exact r'.hid a ha
  · obtain ⟨a, u, e, h1, f⟩ := r.fit n o s ho
    exact ⟨a, u, e, by rw [upd_ne (ne_of_none h1 h)]; exact h1, Fit.map (p := fun _ => True) (fun ws vs _ d => Dns.mono (Kp.fresh h) _ _ (Dns.hide h _ _ d)) (MO.all_of (fun _ => trivial) o) f⟩
theorem Rst.show (r : Rst ⟨K, D :: hd⟩ H io S) : Rst ⟨K, hd⟩ H io S := by
  refine ⟨r.len, r.nd, r.trk, fun a ha => r.hid a (List.mem_cons_of_mem _ ha), fun n o s ho => ?_⟩
  obtain ⟨a, u, e, h1, f⟩ := r.fit n o s ho
  exact ⟨a, u, e, h1, Fit.map (p := fun _ => True) (fun ws vs _ d => Dns.show _ _ d) (MO.all_of (fun _ => trivial) o) f⟩
theorem Rst.updD (r : Rst ⟨K, D :: hd⟩ H io S) {acc xs' : List V} (hD : H D = some (.lst acc)) : Rst ⟨K, D :: hd⟩ (upd H D (.lst xs')) io S := by
  have nt : ∀ a, H a ≠ none → upd H D (.lst xs') a ≠ none := fun a h => by
    by_cases e : a = D
    · subst e; rw [upd_same]; exact fun z => nomatch z
    · rw [upd_ne e]; exact h
  refine ⟨r.len, r.nd, fun a ha => nt a (r.trk a ha), fun a ha => ⟨nt a (r.hid a ha).1, (r.hid a ha).2⟩, fun n o s ho => ?_⟩
  obtain ⟨a, u, e, h1, f⟩ := r.fit n o s ho
  have ne : a ≠ D := fun z => (r.hid D List.mem_cons_self).2 (List.mem_of_getElem? (z ▸ e))
  exact ⟨a, u, e, by rw [upd_ne ne]; exact h1, Fit.map (p := fun _ => True) (fun ws vs _ d => Dns.updD hD _ _ d) (MO.all_of (fun _ => trivial) o) f⟩
theorem Kp.updD {c : Cf} {H0 H : Hp} {io0 io : List Addr} {S0 S : Sto} (k : Kp c H0 io0 S0 H io S) (h0 : H0 D = none) {acc xs' : List V} (hD : H D = some (.lst acc)) : Kp c H0 io0 S0 (upd H D (.lst xs')) io S := by
  refine ⟨fun a xs h => (k.tup a xs h).mv fun h1 => by rw [upd_ne (ne_of h1 hD (fun z => nomatch z))]; exact h1, fun a xs h => (k.fx a xs h).mv fun o h1 => by rw [upd_ne (ne_of h1 hD (fun z => nomatch z))]; exact h1, fun a o h l => ⟨?_, (k.keep a o h l).2⟩, k.ref⟩
  · rw [upd_ne (ne_of_none h h0)]; exact (k.keep a o h l).1
end
def wpE (env : En) : List Nat → En
  | [] => env
  | v :: vs => (wpE env vs).set v none
theorem EnOk.wipe {c : Cf} {H : Hp} {io : List Addr} {S : Sto} {env : En} {σ : L2.St} (e : EnOk c H io S env σ) : ∀ vs : List Nat, EnOk c H io S (wpE env vs) (L2.wipe σ vs)
  | [] => e
  | _ :: vs => (e.wipe vs).drop
theorem wipe_idem {σ : L2.St} : ∀ vs : List Nat, wipe (wipe σ vs) vs = wipe σ vs := fun vs => by
  have key : ∀ us : List Nat, (∀ u ∈ us, u ∈ vs) → wipe (wipe σ us) vs = wipe σ vs := fun us => by
    induction us with
    | nil => intro _; rfl
    | cons u us ih =>
      intro h
      show wipe ((wipe σ us).set u none) vs = _
      rw [wipe_set (h u List.mem_cons_self)]
      exact ih fun x hx => h x (List.mem_cons_of_mem _ hx)
  exact key vs fun _ h => h
noncomputable def lcM (s : Sr) (g : Dv → En → M En) (t : En → M Bool) (e : En → M Dv) (env0 : En) : List Dv → M (List Dv)
  | [] => fun S => chkB s S (some ([], S))
  | x :: xs => fun S => chkB s S (M.bind (g x env0) (fun env1 => M.bind (t env1) fun b => if b = true then M.bind (e env1) (fun y => M.bind (lcM s g t e env0 xs) fun ys => M.ret (y :: ys)) else lcM s g t e env0 xs) S)
noncomputable def lcD (m : M Sr) (vs : List Nat) (g : Dv → En → M En) (t : En → M Bool) (e : En → M Dv) (env : En) : M Dv := M.bind m fun s => M.bind (lcM s g t e (wpE env vs) s.ws) fun ys S => if ys.length ≤ sizeLine then some (.lst ys, S) else none
theorem lc_read {K : PySem.W.Frag} {m : En → M Sr} {vs : List Nat} {g : Dv → En → M En} {t : En → M Bool} {e : En → M Dv} {tt : TT} (htt : ∀ σ H Q, tDT K t σ H Q → tt σ H Q) {σ : L2.St} {H : Hp} {Q : VK}
    (h : tD K (fun env => lcD (m env) vs g t e env) σ H Q) : tLc (tDI K m) (tDG K vs g) tt (tD K e) vs σ H Q := by
  obtain ⟨hd, env, S, io, w, Sf, r, en, hm, hq⟩ := h
  obtain ⟨s, S1, h1, hm⟩ := M.bind_some hm
  obtain ⟨ys, S2, h2, hm⟩ := M.bind_some hm
  obtain ⟨hz, ef⟩ := if_some hm
  cases ef
  refine ⟨hd, env, S, io, s, S1, r, en, h1, fun H0 io0 J base xs k0 r0 d0 wk D hD => ?_⟩
  have en0 : EnOk ⟨K, D :: hd⟩ (upd H0 D (.lst [])) io0 S1 (wpE env vs) (wipe σ vs) :=
    EnOk.mono (c := ⟨K, D :: hd⟩) ⟨((en.mono k0).wipe vs).1, fun i w h => let ⟨v, q1, q2⟩ := ((en.mono k0).wipe vs).2 i w h; ⟨v, q1, Dn.hide hD _ _ q2⟩⟩ (Kp.fresh hD)
  have d0' : Dns ⟨K, D :: hd⟩ (upd H0 D (.lst [])) io0 S1 base xs := Dns.mono (Kp.fresh hD) _ _ (Dns.hide hD _ _ d0)
  refine ⟨fun i m H => ∃ io S acc aw rest, m = s.ws.length - i ∧ i ≤ s.ws.length ∧ Kp ⟨K, hd⟩ H0 io0 S1 H io S ∧ Rst ⟨K, D :: hd⟩ H io S ∧ H D = some (.lst acc) ∧ Dns ⟨K, D :: hd⟩ H io S aw acc ∧
      Dns ⟨K, D :: hd⟩ H io S base xs ∧ EnOk ⟨K, D :: hd⟩ H io S (wpE env vs) (wipe σ vs) ∧ lcM s g t e (wpE env vs) (s.ws.drop i) S = some (rest, Sf) ∧ aw ++ rest = ys,
    ⟨s.ws.length, io0, S1, [], [], ys, by simp, Nat.zero_le _, Kp.fresh hD, r0.hide hD, upd_same, rfl, d0', en0, h2, rfl⟩, ?_⟩
  rintro i mm H1 ⟨io1, S3, acc, aw, rest, rfl, hi, k1, r1, hacc, da, db, en1, hl, hys⟩
  have nlv : ∀ {H io S}, Rst ⟨K, D :: hd⟩ H io S → ¬ Lv io S D := fun {H io S} r l => by
    obtain ⟨n, ws, q1, _⟩ := l
    exact (r.hid D List.mem_cons_self).2 (List.mem_of_getElem? q1)
  by_cases hlt : i < s.ws.length
  · rw [List.drop_eq_getElem_cons hlt] at hl
    unfold lcM at hl
    obtain ⟨ck, hl⟩ := chkB_some hl
    refine .inr ⟨wk.go _ _ _ _ _ k1 r1 ck hlt, fun H => ∃ io S acc aw rest, Kp ⟨K, hd⟩ H0 io0 S1 H io S ∧ Rst ⟨K, D :: hd⟩ H io S ∧ H D = some (.lst acc) ∧ Dns ⟨K, D :: hd⟩ H io S aw acc ∧
      Dns ⟨K, D :: hd⟩ H io S base xs ∧ EnOk ⟨K, D :: hd⟩ H io S (wpE env vs) (wipe σ vs) ∧ lcM s g t e (wpE env vs) (s.ws.drop (i + 1)) S = some (rest, Sf) ∧ aw ++ rest = ys,
      fun H' ⟨io', S', acc', aw', rest', z⟩ => ⟨s.ws.length - (i + 1), by omega, io', S', acc', aw', rest', rfl, hlt, z⟩, fun x H' y => ?_⟩
    obtain ⟨w, hw, hla, dw⟩ := wk.yld _ _ _ _ _ _ _ k1 r1 ck db hlt y
    rw [List.getElem?_eq_getElem hlt] at hw
    cases hw
    obtain ⟨env1, S4, h4, hl⟩ := M.bind_some hl
    obtain ⟨bb, S5, h5, hl⟩ := M.bind_some hl
    have kl : Kp ⟨K, D :: hd⟩ H1 io1 S3 H' io1 S3 := Kp.laid hla
    refine ⟨D :: hd, wpE env vs, S3, io1, _, env1, S4, r1.laid hla, en1.mono kl, dw, h4, fun σ2 H2 io2 k2 r2 en2 wp2 => ⟨by rw [wp2]; exact wipe_idem vs, ?_⟩⟩
    refine htt _ _ _ ⟨D :: hd, env1, S4, io2, bb, S5, r2, en2, h5, fun H3 io3 k3 r3 => ?_⟩
    have kk := (kl.trans k2).trans k3
    cases bb with
    | true =>
      rw [if_pos rfl] at hl
      refine iteT ?_
      obtain ⟨y1, S6, h6, hl⟩ := M.bind_some hl
      obtain ⟨rest', S7, h7, hl⟩ := M.bind_some hl
      obtain ⟨rfl, rfl⟩ := M.ret_some hl
      refine ⟨D :: hd, env1, S5, io3, y1, S6, r3, en2.mono k3, h6, fun v4 H4 io4 k4 r4 d4 => ?_⟩
      have k14 := kk.trans k4
      have hD4 : H4 D = some (.lst acc) := (k14.keep D _ hacc (nlv r1)).1
      have hlen : acc.length + 1 ≤ sizeLine := by
        have q1 := da.length
        have q2 : (aw ++ y1 :: rest').length ≤ sizeLine := by rw [hys]; exact hz
        rw [List.length_append, List.length_cons] at q2
        omega
      refine ⟨acc, hD4, hlen, io4, S6, acc ++ [v4], aw ++ [y1], rest', (k1.trans k14.hd).updD hD hD4, r4.updD hD4, upd_same, Dns.updD hD4 _ _ ((Dns.mono k14 _ _ da).append ⟨v4, [], rfl, d4, rfl⟩), Dns.updD hD4 _ _ (Dns.mono k14 _ _ db), ?_, h7, by rw [List.append_assoc]; exact hys⟩
      · exact ⟨(en1.mono k14).1, fun i w h => let ⟨v, q1, q2⟩ := (en1.mono k14).2 i w h; ⟨v, q1, Dn.updD hD4 _ _ q2⟩⟩
    | false =>
      rw [if_neg Bool.false_ne_true] at hl
      refine iteF ?_
      exact ⟨io3, S5, acc, aw, rest, k1.trans kk.hd, r3, (kk.keep D _ hacc (nlv r1)).1, Dns.mono kk _ _ da, Dns.mono kk _ _ db, en1.mono kk, hl, hys⟩
  · rw [List.drop_eq_nil_of_le (by omega)] at hl
    unfold lcM at hl
    obtain ⟨ck, hl⟩ := chkB_some hl
    cases hl
    rw [List.append_nil] at hys
    subst hys
    refine .inl ⟨wk.stop _ _ _ _ _ k1 r1 ck (by omega), ?_⟩
    exact hq _ H1 io1 (k0.trans k1) r1.show ⟨D, acc, rfl, hacc, nlv r1, not_hd_fresh r0 hD, by rw [da.length]; exact hz, Dns.show _ _ da⟩
section
variable {X : Cx} {elt tg iter : Expr} {scope : Scope} {own : List (Str × Nat)} {pos : Pos}
theorem ed_lc {m : En → M Sr} {g : Dv → En → M En} {e : En → M Dv} (hc : X.calm = true) (hN : X.N.Nodup) (hi : ID X tg iter m) (ok : BlkOk X.N X.env.scope scope own)
    (hg : ∀ (s : Shared) (H : Hp) (C : Addr) (cl : List (Str × Addr)) (fp : List Addr), GD (X.blk s H scope (compEnvC scope cl C X.env) fp) tg (own.map (·.2)) g)
    (he : ∀ (s : Shared) (H : Hp) (C : Addr) (cl : List (Str × Addr)) (fp : List Addr), ED (X.blk s H scope (compEnvC scope cl C X.env) fp) elt e) (hs : ∀ x, foldedSetIterable iter X.env x = pure x := by intro _; rfl) :
    ED X (.ListComp elt [⟨tg, iter, [], 0⟩] scope pos) (fun env => lcD (m env) (own.map (·.2)) g (fun _ => M.ret true) e env) :=
  ed_of (pe_lc hc hN hi ok hg (fun _ _ _ _ _ => pts_nil) he hs) fun σ H Q h => lc_read (tt := tYes) (fun σ H Q q => by
    obtain ⟨hd, env, S, io, b, S', r, en, hm, hq⟩ := q
    obtain ⟨rfl, rfl⟩ := M.ret_some hm
    exact hq H io Kp.refl r) h
theorem ed_lcIf {c : Expr} {m : En → M Sr} {g : Dv → En → M En} {t : En → M Bool} {e : En → M Dv} (hc : X.calm = true) (hN : X.N.Nodup) (hi : ID X tg iter m) (ok : BlkOk X.N X.env.scope scope own)
    (hg : ∀ (s : Shared) (H : Hp) (C : Addr) (cl : List (Str × Addr)) (fp : List Addr), GD (X.blk s H scope (compEnvC scope cl C X.env) fp) tg (own.map (·.2)) g)
    (ht : ∀ (s : Shared) (H : Hp) (C : Addr) (cl : List (Str × Addr)) (fp : List Addr), TD (X.blk s H scope (compEnvC scope cl C X.env) fp) c t)
    (he : ∀ (s : Shared) (H : Hp) (C : Addr) (cl : List (Str × Addr)) (fp : List Addr), ED (X.blk s H scope (compEnvC scope cl C X.env) fp) elt e) (hs : ∀ x, foldedSetIterable iter X.env x = pure x := by intro _; rfl) :
    ED X (.ListComp elt [⟨tg, iter, [c], 0⟩] scope pos) (fun env => lcD (m env) (own.map (·.2)) g t e env) :=
  ed_of (pe_lc hc hN hi ok hg (fun s H C cl fp => pts_one (ht s H C cl fp)) he hs) fun σ H Q h => lc_read (fun _ _ _ q => q) h
theorem sd_setLc {i : Nat} {y : Str} {py spos : Pos} {m : En → M Sr} {g : Dv → En → M En} {e : En → M Dv} (hc : X.calm = true) (hN : X.N.Nodup) (hy : X.N[i]? = some y) (hyl : X.env.scope.names.lookup y = some .local)
    (hsw : swapsWith (.ListComp elt [⟨tg, iter, [], 0⟩] scope pos) (some (.Name y py)) spos.line X.env = pure true) (hi : ID X tg iter m) (ok : BlkOk X.N X.env.scope scope own)
    (hg : ∀ (s : Shared) (H : Hp) (C : Addr) (cl : List (Str × Addr)) (fp : List Addr), GD (X.blk s H scope (compEnvC scope cl C X.env) fp) tg (own.map (·.2)) g)
    (he : ∀ (s : Shared) (H : Hp) (C : Addr) (cl : List (Str × Addr)) (fp : List Addr), ED (X.blk s H scope (compEnvC scope cl C X.env) fp) elt e) (hs : ∀ x, foldedSetIterable iter X.env x = pure x := by intro _; rfl) :
    SD X (.Assign [.Name y py] (.ListComp elt [⟨tg, iter, [], 0⟩] scope pos) spos) (fun env => setS i (lcD (m env) (own.map (·.2)) g (fun _ => M.ret true) e env) env) := by
  refine sd_of (ps_setLc (i := i) (wi := tDI X.K m) (g := tDG X.K (own.map (·.2)) g) (te := tD X.K e) hc hN hy hyl hsw hi ok hg (fun _ _ _ _ _ => pts_nil) he hs) (fun D σ H h => ?_)
  obtain ⟨hd, env, S, io, f, S', r, en, hm, hq⟩ := h
  obtain ⟨w, S1, h1, hm⟩ := M.bind_some hm
  obtain ⟨rfl, rfl⟩ := M.ret_some hm
  refine lc_read (tt := tYes) (fun σ H Q q => ?_) ⟨hd, env, S, io, w, _, r, en, h1, fun v H1 io1 k1 r1 d1 => hq _ H1 io1 k1 r1 ((en.mono k1).set d1)⟩
  obtain ⟨hd, env, S, io, b, S', r, en, hm, hq⟩ := q
  obtain ⟨rfl, rfl⟩ := M.ret_some hm
  exact hq H io Kp.refl r
theorem sd_setLcIf {c : Expr} {i : Nat} {y : Str} {py spos : Pos} {m : En → M Sr} {g : Dv → En → M En} {t : En → M Bool} {e : En → M Dv} (hc : X.calm = true) (hN : X.N.Nodup) (hy : X.N[i]? = some y) (hyl : X.env.scope.names.lookup y = some .local)
    (hsw : swapsWith (.ListComp elt [⟨tg, iter, [c], 0⟩] scope pos) (some (.Name y py)) spos.line X.env = pure true) (hi : ID X tg iter m) (ok : BlkOk X.N X.env.scope scope own)
    (hg : ∀ (s : Shared) (H : Hp) (C : Addr) (cl : List (Str × Addr)) (fp : List Addr), GD (X.blk s H scope (compEnvC scope cl C X.env) fp) tg (own.map (·.2)) g)
    (ht : ∀ (s : Shared) (H : Hp) (C : Addr) (cl : List (Str × Addr)) (fp : List Addr), TD (X.blk s H scope (compEnvC scope cl C X.env) fp) c t)
    (he : ∀ (s : Shared) (H : Hp) (C : Addr) (cl : List (Str × Addr)) (fp : List Addr), ED (X.blk s H scope (compEnvC scope cl C X.env) fp) elt e) (hs : ∀ x, foldedSetIterable iter X.env x = pure x := by intro _; rfl) :
    SD X (.Assign [.Name y py] (.ListComp elt [⟨tg, iter, [c], 0⟩] scope pos) spos) (fun env => setS i (lcD (m env) (own.map (·.2)) g t e env) env) := by
  refine sd_of (ps_setLc (i := i) (wi := tDI X.K m) (g := tDG X.K (own.map (·.2)) g) (te := tD X.K e) (tt := tDT X.K t) hc hN hy hyl hsw hi ok hg (fun s H C cl fp => pts_one (ht s H C cl fp)) he hs) fun D σ H h => ?_
  obtain ⟨hd, env, S, io, f, S', r, en, hm, hq⟩ := h
  obtain ⟨w, S1, h1, hm⟩ := M.bind_some hm
  obtain ⟨rfl, rfl⟩ := M.ret_some hm
  exact lc_read (fun _ _ _ q => q) ⟨hd, env, S, io, w, _, r, en, h1, fun v H1 io1 k1 r1 d1 => hq _ H1 io1 k1 r1 ((en.mono k1).set d1)⟩
end

/-! ## defs, where no repr is under way -/
structure FnG (P : Program) (w : World) (K : PySem.W.Frag) (mg : Str → Option Value) (base : Heap) (k : Nat) (f : Addr) (fd : FuncData) (ps : List Str) (sp : Sp) : Prop where
  len : ∀ vs H Q E, sp vs H Q E → vs.length = ps.length
  run : ∀ (A : Around) (outer : List Env) (s : Shared) (H : Hp) (args : Args) (us : List Value) (vs : List V) (Q : VK) (E : XK), Room k A → A.guards = some [] → Env0 P w K mg base A outer s H →
    BindsTo s fd args (ps.zip us) → Vals vs us → sp vs H Q E → codeAny (model P w) A (.call (.ref f) args) (CR CX0 outer P w H s Q E) s
theorem FnG.mono {P : Program} {w : World} {K : PySem.W.Frag} {mg : Str → Option Value} {base : Heap} {j k : Nat} {f : Addr} {fd : FuncData} {ps : List Str} {sp : Sp} (F : FnG P w K mg base j f fd ps sp) (h : j ≤ k) : FnG P w K mg base k f fd ps sp :=
  ⟨F.len, fun A outer s H args us vs Q E hr hg => F.run A outer s H args us vs Q E (hr.mono h) hg⟩
/-- n arguments; what the def does by the plain program g -/
def spD (K : PySem.W.Frag) (n : Nat) (g : List Dv → M Dv) : Sp := fun vs H Q _ => ∃ hd S io ws w S', Rst ⟨K, hd⟩ H io S ∧ Dns ⟨K, hd⟩ H io S ws vs ∧ ws.length = n ∧ g ws S = some (w, S') ∧ Post ⟨K, hd⟩ H io S w S' Q
section
variable {P : Program} {w : World} {K : PySem.W.Frag} {mg : Str → Option Value} {base : Heap}
theorem FnG.weak {k : Nat} {f : Addr} {fd : FuncData} {ps : List Str} {n : Nat} {g g' : List Dv → M Dv} (F : FnG P w K mg base k f fd ps (spD K n g)) (h : ∀ ws S r, ws.length = n → g' ws S = some r → g ws S = some r) : FnG P w K mg base k f fd ps (spD K n g') := by
  have cv : ∀ vs H Q E, spD K n g' vs H Q E → spD K n g vs H Q E := fun vs H Q E ⟨hd, S, io, ws, w, S', r, d, hl, hm, hq⟩ => ⟨hd, S, io, ws, w, S', r, d, hl, h _ _ _ hl hm, hq⟩
  exact ⟨fun vs H Q E q => F.len vs H Q E (cv _ _ _ _ q), fun A outer s H args us vs Q E hr hg e hb hv q => F.run A outer s H args us vs Q E hr hg e hb hv (cv _ _ _ _ q)⟩
/-- a def by its body -/
theorem fnG_body {x qual : Str} {st : Stmt} {f : Addr} {fd : FuncData} {N ps : List Str} {k : Nat} {sp : Sp} (F : Fun K x qual st f fd) (S : FnScope N ps (defScope st)) (len : ∀ vs H Q E, sp vs H Q E → vs.length = ps.length)
    (hbody : ∀ (cdv : Value) (A : Around) (outer : List Env) (s : Shared) (H : Hp) (vs : List V) (Q : VK) (E : XK), Room k (A.deeper (envOfC qual (defScope st) s.heap.objs.size f cdv)) → A.guards = some [] → sp vs H Q E →
      ∃ t, PSs (cxOf CX0 P w K mg base N qual (defScope st) f cdv A outer s H E).nox (defBody st) t ∧ t { nx := fun _ H' => Q .non H', rt := Q } (L2.start N vs) H) : FnG P w K mg base (k + 1) f fd ps sp := by
  obtain ⟨oc, od, kV, doc, pm, an, cdv, ct, osl, rfl, look, code⟩ := F.ex
  constructor
  · exact len
  intro A outer s H args us vs Q E room grd e0 bound rel want
  have many := len vs H Q E want
  have inK : K.In s.heap := e0.mod.kin.keeps fun b o h => (e0.bs b o h).1
  have noLim := e0.mod.nolimit.keeps (h' := s.heap) fun b o h => (e0.bs b o h).1
  have kinds : ∀ y ∈ ps.zip us, (defScope st).names.lookup y.1 = some .local ∨ ((defScope st).names.lookup y.1 = some .cell ∧ ((cellsFrom (s.heap.objs.size + 1) (defScope st).names []).lookup y.1).isSome = true) := by
    intro y hy
    cases S.par y.1 (List.of_mem_zip hy).1 with
    | inl q => exact .inl q
    | inr q => exact .inr ⟨q, PySem.W.cellsFrom_some _ _ _ (.inl q)⟩
  apply codeAny_call_function room.depth (inK _ _ look) rfl S.co S.gen rfl (PySem.W.codeRec_of inK code)
  apply bound
  refine wpAny_newFunctionEnv_cells S.kind kinds fun env he s1 born => ?_
  subst he
  refine ⟨noLim.keeps born.toInCall.keep, codeAny_func ?_⟩
  obtain ⟨t, run, ask⟩ := hbody cdv A outer s H vs Q E (room.deeper _) grd want
  refine wpAny_mono (run.nox.run [] s1 (L2.start N vs) H _ (inv_start S room.hd e0 many rel born) ask) (fun fl s' back => ?_) fun _ _ z => z
  have close : ∀ {σ' : L2.St} {H' : Hp} {v : V} {u : Value}, L2.Inv (cxOf CX0 P w K mg base N qual (defScope st) f cdv A outer s H E) [] σ' H' s' → RelV v u → Q v H' → CE outer P w H s Q u s' := by
    intro σ' H' v u J rv q
    exact ⟨v, H', J.os, J.bare, J.base, J.hok, rv, q⟩
  cases fl with
  | brk => exact back.elim fun _ z => z.elim fun _ z => z.2.elim
  | cont => exact back.elim fun _ z => z.elim fun _ z => z.2.elim
  | next => obtain ⟨σ', H', J, q⟩ := back; exact close (v := V.non) (u := Value.none) J rfl q
  | ret u => obtain ⟨v, σ', H', J, rv, q⟩ := back; exact close J rv q
end
mutual
/-- its live lists are below k -/
def Dv.lt (k : Nat) : Dv → Bool
  | .tup ws => Dv.lts k ws
  | .lst ws => Dv.lts k ws
  | .kls ws => Dv.lts k ws
  | .ref n => decide (n < k)
  | .dct ks vs => Dv.lts k ks && Dv.lts k vs
  | .dck _ vs => Dv.lts k vs
  | .ob _ _ vs => Dv.lts k vs
  | _ => true
def Dv.lts (k : Nat) : List Dv → Bool
  | [] => true
  | w :: ws => w.lt k && Dv.lts k ws
end
mutual
theorem pu_lt {k : Nat} : ∀ w : Dv, w.pu = true → w.lt k = true
  | .non, _ => by simp [Dv.lt]
  | .bl _, _ => by simp [Dv.lt]
  | .int _, _ => by simp [Dv.lt]
  | .str _, _ => by simp [Dv.lt]
  | .ty _, h => by cases h
  | .fx _, h => by cases h
  | .tup ws, h => pus_lts ws h
  | .lst ws, h => pus_lts ws h
  | .kls ws, h => pus_lts ws h
  | .ref _, h => by cases h
  | .dct _ _, h => by cases h
  | .dck _ _, h => by cases h
  | .ob _ _ _, h => by cases h
  | .sti _, h => by cases h
  | .cl _, h => by cases h
  | .stt _, h => by cases h
theorem pus_lts {k : Nat} : ∀ ws : List Dv, Dv.pus ws = true → Dv.lts k ws = true
  | [], _ => by simp [Dv.lts]
  | w :: ws, h => by
    have h' : w.pu = true ∧ Dv.pus ws = true := by simpa [Dv.pus] using h
    have h1 := pu_lt (k := k) w h'.1
    have h2 := pus_lts (k := k) ws h'.2
    simp [Dv.lts, h1, h2]
end
def MO.lt (k : Nat) : MO → Bool
  | .lst ws => Dv.lts k ws
  | .dct ks vs => Dv.lts k ks && Dv.lts k vs
  | .dck _ vs => Dv.lts k vs
  | .ob _ _ vs => Dv.lts k vs
  | .gone => true
theorem MO.lt_all {k : Nat} {o : MO} (h : o.lt k = true) : o.all fun ws => Dv.lts k ws = true := by
  cases o with
  | lst ws => exact h
  | dct ks vs => exact Bool.and_eq_true_iff.mp h
  | dck ks vs => exact h
  | ob cl fs vs => exact h
  | gone => trivial
theorem MO.lt_of {k : Nat} {o : MO} (h : o.all fun ws => Dv.lts k ws = true) : o.lt k = true := by
  cases o with
  | lst ws => exact h
  | dct ks vs => exact Bool.and_eq_true_iff.mpr h
  | dck ks vs => exact h
  | ob cl fs vs => exact h
  | gone => rfl
theorem MO.fz_lt {k : Nat} {o : MO} {w : Dv} (h : o.fz = some w) : w.lt k = o.lt k := by
  cases o with
  | gone => cases h
  | _ => cases h; simp [Dv.lt, MO.lt]
/-- what leaves a def: no live thing of its own -/
def outW (k : Nat) (S : Sto) (w : Dv) : Option Dv := if w.lt k = true then some w else match w with
  | .ref n => match S[n]? with
    | some o => if o.lt k = true then o.fz else none
    | none => none
  | _ => none
def startE (N : Nat) (ws : List Dv) : En := ws.map some ++ List.replicate (N - ws.length) none
/-- what the caller's things hold behind a call -/
def KeepOk (S S' : Sto) : Prop := ∀ (n : Nat) o, n < S.length → S'[n]? = some o → S[n]? = some o ∨ o.lt S.length = true
noncomputable instance (S S' : Sto) : Decidable (KeepOk S S') := Classical.propDecidable _
noncomputable def fnM (N : Nat) (m : En → M Fl) (ws : List Dv) : M Dv := fun S => match m (startE N ws) S with
  | some (.rt w, S') => match outW S.length S' w with
    | some w' => if KeepOk S S' then some (w', S'.take S.length) else none
    | none => none
  | some (.nx _, S') => if KeepOk S S' then some (.non, S'.take S.length) else none
  | _ => none
/-- the def hands out a new thing that is live from there on -/
noncomputable def fnL (N : Nat) (m : En → M Fl) (ws : List Dv) : M Dv := fun S => match m (startE N ws) S with
  | some (.rt (.ref n), S') => if n < S.length then none else match S'[n]? with
    | some o => if o.lt S.length = true ∧ o.fz.isSome = true ∧ KeepOk S S' then some (.ref S.length, S'.take S.length ++ [o]) else none
    | none => none
  | _ => none
section
variable {K : PySem.W.Frag} {hd : List Addr} {H H' : Hp} {io io' : List Addr} {S S' : Sto}
mutual
theorem Dn.lt : ∀ (w : Dv) (v : V), Dn ⟨K, hd⟩ H io S w v → w.lt io.length = true
  | .non, v, q => by simp [Dv.lt]
  | .bl _, v, q => by simp [Dv.lt]
  | .int _, v, q => by simp [Dv.lt]
  | .str _, v, q => by simp [Dv.lt]
  | .ty _, v, q => by simp [Dv.lt]
  | .fx _, v, q => by simp [Dv.lt]
  | .tup ws, v, q => by
    obtain ⟨a, xs, e, h1, h2⟩ := q
    exact Dns.lt ws xs h2
  | .lst ws, v, q => by
    obtain ⟨a, xs, e, h1, h2, h3, h4, h5⟩ := q
    exact Dns.lt ws xs h5
  | .kls ws, v, q => by
    obtain ⟨a, xs, e, h1, h2⟩ := q
    exact Dns.lt ws xs h2
  | .ref n, v, q => by
    obtain ⟨a, e, h⟩ := q
    exact decide_eq_true (List.getElem?_eq_some_iff.mp h).1
  | .dct ks vs, v, q => by
    obtain ⟨a, xs, us, e, h1, h2, h3, hn, hk, hv, hd⟩ := q
    exact Bool.and_eq_true_iff.mpr ⟨Dns.lt ks _ hk, Dns.lt vs us hd⟩
  | .dck ks vs, v, q => by
    obtain ⟨a, us, e, h1, h2, h3, hl, hn, hd⟩ := q
    exact Dns.lt vs us hd
  | .cl _, v, q => by simp [Dv.lt]
  | .sti ns, v, q => by simp [Dv.lt]
  | .stt nss, v, q => by simp [Dv.lt]
  | .ob cl fs vs, v, q => by
    obtain ⟨a, C, dx, us, e, hc, h1, h2, h3, hl, hd⟩ := q
    exact Dns.lt vs us hd
theorem Dns.lt : ∀ (ws : List Dv) (vs : List V), Dns ⟨K, hd⟩ H io S ws vs → Dv.lts io.length ws = true
  | [], v, _ => by simp [Dv.lts]
  | w :: ws, v, q => by
    obtain ⟨v, vr, e, h1, h2⟩ := q
    have q1 := Dn.lt w v h1
    have q2 := Dns.lt ws vr h2
    simp [Dv.lts, q1, q2]
end
mutual
theorem Dn.cut {k : Nat} (hk : ∀ (n : Nat) a, n < k → io[n]? = some a → io'[n]? = some a) (hl : ∀ a, Lv io' S' a → Lv io S a) : ∀ (w : Dv) (v : V), w.lt k = true → Dn ⟨K, hd⟩ H io S w v → Dn ⟨K, hd⟩ H io' S' w v
  | .non, v, _, q => q
  | .bl _, v, _, q => q
  | .int _, v, _, q => q
  | .str _, v, _, q => q
  | .ty _, v, _, q => q
  | .fx _, v, _, q => q
  | .tup ws, v, p, q => by
    obtain ⟨a, xs, e, h1, h2⟩ := q
    exact ⟨a, xs, e, h1, Dns.cut hk hl ws xs p h2⟩
  | .lst ws, v, p, q => by
    obtain ⟨a, xs, e, h1, h2, h3, h4, h5⟩ := q
    exact ⟨a, xs, e, h1, fun z => h2 (hl a z), h3, h4, Dns.cut hk hl ws xs p h5⟩
  | .kls ws, v, p, q => by
    obtain ⟨a, xs, e, h1, h2⟩ := q
    exact ⟨a, xs, e, h1, Dns.cut hk hl ws xs p h2⟩
  | .ref n, v, p, q => by
    obtain ⟨a, e, h⟩ := q
    exact ⟨a, e, hk n a (of_decide_eq_true p) h⟩
  | .dct ks vs, v, p, q => by
    obtain ⟨a, xs, us, e, h1, h2, h3, hn, hky, hv, hd⟩ := q
    obtain ⟨p1, p2⟩ := Bool.and_eq_true_iff.mp (show (Dv.lts k ks && Dv.lts k vs) = true from p)
    exact ⟨a, xs, us, e, h1, fun z => h2 (hl a z), h3, hn, Dns.cut hk hl ks _ p1 hky, hv, Dns.cut hk hl vs us p2 hd⟩
  | .dck ks vs, v, p, q => by
    obtain ⟨a, us, e, h1, h2, h3, hln, hn, hd⟩ := q
    exact ⟨a, us, e, h1, fun z => h2 (hl a z), h3, hln, hn, Dns.cut hk hl vs us p hd⟩
  | .cl _, v, p, q => q
  | .sti ns, v, p, q => by
    obtain ⟨a, e, h1, h2, h3⟩ := q
    exact ⟨a, e, h1, fun z => h2 (hl a z), h3⟩
  | .stt nss, v, p, q => by
    obtain ⟨a, L, e, h1, h2, h3⟩ := q
    exact ⟨a, L, e, h1, fun z => h2 (hl a z), h3⟩
  | .ob cl fs vs, v, p, q => by
    obtain ⟨a, C, dx, us, e, hc, h1, h2, h3, hln, hd⟩ := q
    exact ⟨a, C, dx, us, e, hc, h1, fun z => h2 (hl a z), h3, hln, Dns.cut hk hl vs us p hd⟩
theorem Dns.cut {k : Nat} (hk : ∀ (n : Nat) a, n < k → io[n]? = some a → io'[n]? = some a) (hl : ∀ a, Lv io' S' a → Lv io S a) : ∀ (ws : List Dv) (vs : List V), Dv.lts k ws = true → Dns ⟨K, hd⟩ H io S ws vs → Dns ⟨K, hd⟩ H io' S' ws vs
  | [], v, _, q => q
  | w :: ws, v, p, q => by
    obtain ⟨v, vr, e, h1, h2⟩ := q
    have p' : w.lt k = true ∧ Dv.lts k ws = true := by simpa [Dv.lts] using p
    exact ⟨v, vr, e, Dn.cut hk hl w v p'.1 h1, Dns.cut hk hl ws vr p'.2 h2⟩
end
/-- behind a call -/
theorem call_end (r : Rst ⟨K, hd⟩ H io S) (k : Kp ⟨K, hd⟩ H io S H' io' S') (r' : Rst ⟨K, hd⟩ H' io' S') (ok : KeepOk S S') :
    (∀ (n : Nat) a, n < S.length → io'[n]? = some a → io[n]? = some a) ∧ (∀ a, Lv io (S'.take S.length) a → Lv io' S' a) ∧ Kp ⟨K, hd⟩ H io S H' io (S'.take S.length) ∧ Rst ⟨K, hd⟩ H' io (S'.take S.length) := by
  have hio : ∀ (n : Nat) a, n < S.length → io'[n]? = some a → io[n]? = some a := fun n a hn e => by
    have hn' : n < io.length := by rw [r.len]; exact hn
    have e1 : io[n]? = some io[n] := List.getElem?_eq_getElem hn'
    have e2 := k.ref n _ e1
    rw [e] at e2; cases e2
    exact e1
  have hlv : ∀ a, Lv io (S'.take S.length) a → Lv io' S' a := fun a ⟨n, ws, e1, e2, e3⟩ => by
    have hn : n < S.length := by
      have := (List.getElem?_eq_some_iff.mp e2).1
      rw [List.length_take] at this; omega
    rw [List.getElem?_take_of_lt hn] at e2
    exact ⟨n, ws, k.ref n a e1, e2, e3⟩
  have hle : S.length ≤ S'.length := by
    rw [← r'.len, ← r.len]
    by_cases h0 : io.length = 0
    · omega
    · have e1 : io[io.length - 1]? = some (io[io.length - 1]'(by omega)) := List.getElem?_eq_getElem (by omega)
      have := (List.getElem?_eq_some_iff.mp (k.ref _ _ e1)).1
      omega
  refine ⟨hio, hlv, ⟨k.tup, k.fx, fun a o h l => ⟨(k.keep a o h l).1, fun z => (k.keep a o h l).2 (hlv a z)⟩, fun _ _ h => h⟩, ?_⟩
  refine ⟨by rw [r.len, List.length_take]; omega, r.nd, fun a ha => ?_, fun a ha => ⟨(r'.hid a ha).1, (r.hid a ha).2⟩, fun n o s ho => ?_⟩
  · obtain ⟨n, e⟩ := List.getElem?_of_mem ha
    exact r'.trk a (List.mem_of_getElem? (k.ref n a e))
  · have hn : n < S.length := by
      have := (List.getElem?_eq_some_iff.mp s).1
      rw [List.length_take] at this; omega
    rw [List.getElem?_take_of_lt hn] at s
    obtain ⟨a, u, e, h1, f⟩ := r'.fit n o s ho
    have hlt : o.lt S.length = true := by
      rcases ok n o hn s with q | q
      · obtain ⟨_, _, _, _, f0⟩ := r.fit n o q ho
        rw [← r.len]
        refine MO.lt_of ?_
        cases o with
        | lst ws => obtain ⟨_, _, _, d⟩ := f0; exact Dns.lt _ _ d
        | dct ks vs => obtain ⟨_, _, _, _, d1, _, d2⟩ := f0; exact ⟨Dns.lt _ _ d1, Dns.lt _ _ d2⟩
        | dck ks vs => obtain ⟨_, _, _, _, d⟩ := f0; exact Dns.lt _ _ d
        | ob cl fs vs => obtain ⟨_, _, _, _, _, _, d⟩ := f0; exact Dns.lt _ _ d
        | gone => exact absurd rfl ho
      · exact q
    exact ⟨a, u, hio n a hn e, h1, Fit.map (fun ws vs p d => Dns.cut hio hlv ws vs p d) (MO.lt_all hlt) f⟩
theorem dn_of_fit {c : Cf} {a : Addr} {o : MO} {u : HO} {w : Dv} (hw : o.fz = some w) (h : H a = some u) (g1 : ¬ Lv io S a) (g2 : a ∉ c.hd) (f : Fit c H io S a o u) : Dn c H io S w (.ref a) := by
  cases o with
  | lst ws => cases hw; obtain ⟨xs, rfl, hz, d⟩ := f; exact ⟨a, xs, rfl, h, g1, g2, hz, d⟩
  | dct ks vs => cases hw; obtain ⟨xs, us, rfl, hn, hk, hv, hd⟩ := f; exact ⟨a, xs, us, rfl, h, g1, g2, hn, hk, hv, hd⟩
  | dck ks vs => cases hw; obtain ⟨us, rfl, hl, hn, hd⟩ := f; exact ⟨a, us, rfl, h, g1, g2, hl, hn, hd⟩
  | ob cl fs vs => cases hw; obtain ⟨C, dx, us, hc, rfl, hl, hd⟩ := f; exact ⟨a, C, dx, us, rfl, hc, h, g1, g2, hl, hd⟩
  | gone => cases hw
theorem MO.fz_ne {o : MO} (h : o.fz.isSome = true) : o ≠ .gone := fun z => by subst z; cases h
theorem start_ok {c : Cf} {N : List Str} {ws : List Dv} {vs : List V} (d : Dns c H io S ws vs) : EnOk c H io S (startE N.length ws) (L2.start N vs) := by
  refine ⟨by unfold startE L2.start; simp [d.length], fun i w h => ?_⟩
  unfold startE at h
  by_cases hi : i < ws.length
  · rw [List.getElem?_append_left (by simpa using hi), List.getElem?_map, List.getElem?_eq_getElem hi] at h
    cases h
    obtain ⟨v, h1, h2⟩ := d.get (List.getElem?_eq_getElem hi)
    refine ⟨v, ?_, h2⟩
    unfold L2.start
    rw [List.getElem?_append_left (by rw [List.length_map, d.length]; exact hi), List.getElem?_map, h1]
    rfl
  · rw [List.getElem?_append_right (by simpa using hi)] at h
    rw [List.getElem?_replicate] at h
    split at h <;> cases h
end
section
variable {P : Program} {w : World} {K : PySem.W.Frag} {mg : Str → Option Value} {base : Heap}
theorem fnD {x qual : Str} {st : Stmt} {f : Addr} {fd : FuncData} {N ps : List Str} {k : Nat} {m : En → M Fl} (F : Fun K x qual st f fd) (S : FnScope N ps (defScope st))
    (hb : ∀ (cdv : Value) (A : Around) (outer : List Env) (s : Shared) (H : Hp) (E : XK), Room k (A.deeper (envOfC qual (defScope st) s.heap.objs.size f cdv)) → A.guards = some [] →
      BD (cxOf CX0 P w K mg base N qual (defScope st) f cdv A outer s H E).nox (defBody st) m) : FnG P w K mg base (k + 1) f fd ps (spD K ps.length (fnM N.length m)) := by
  refine fnG_body F S (fun vs H Q E ⟨hd, S, io, ws, w, S', r, d, hl, hm, hq⟩ => by rw [d.length]; exact hl) fun cdv A outer s H vs Q E hr hg ⟨hd, S, io, ws, w, S', r, d, hl, hm, hq⟩ => ⟨_, hb cdv A outer s H E hr hg, ?_⟩
  unfold fnM at hm
  split at hm
  · rename_i w0 S0 hrun
    split at hm
    · rename_i w1 hw
      obtain ⟨ok, e⟩ := if_some hm
      cases e
      refine ⟨hd, _, S, io, _, S0, r, start_ok d, hrun, fun v H' io' k' r' d' => ?_⟩
      obtain ⟨q1, q2, q3, q4⟩ := call_end r k' r' ok
      unfold outW at hw
      split at hw
      · rename_i hlt
        cases hw
        exact hq v H' io q3 q4 (Dn.cut q1 q2 _ _ hlt d')
      · rename_i hlt
        split at hw
        · rename_i n
          split at hw
          · rename_i o hs
            split at hw
            · rename_i hlt'
              obtain ⟨a, rfl, ha⟩ := d'
              have ho : o ≠ .gone := MO.fz_ne (by rw [hw]; rfl)
              obtain ⟨b, u, hb', h1, f⟩ := r'.fit n o hs ho
              rw [ha] at hb'; cases hb'
              refine hq _ H' io q3 q4 (dn_of_fit hw h1 (fun z => ?_) (fun z => (r'.hid a z).2 (List.mem_of_getElem? ha)) (Fit.map (fun ws vs p d => Dns.cut q1 q2 ws vs p d) (MO.lt_all hlt') f))
              obtain ⟨m, vs, e1, e2, _⟩ := z
              have hm' := io_inj r'.nd ha (k'.ref m a e1)
              subst hm'
              have : n < S.length := by rw [← r.len]; exact (List.getElem?_eq_some_iff.mp e1).1
              exact hlt (decide_eq_true this)
            · cases hw
          · cases hw
        · cases hw
    · cases hm
  · rename_i env0 S0 hrun
    obtain ⟨ok, e⟩ := if_some hm
    cases e
    refine ⟨hd, _, S, io, _, S0, r, start_ok d, hrun, fun σ' H' io' k' r' en' => ?_⟩
    obtain ⟨q1, q2, q3, q4⟩ := call_end r k' r' ok
    exact hq _ H' io q3 q4 rfl
  · cases hm
theorem fnDL {x qual : Str} {st : Stmt} {f : Addr} {fd : FuncData} {N ps : List Str} {k : Nat} {m : En → M Fl} (F : Fun K x qual st f fd) (S : FnScope N ps (defScope st))
    (hb : ∀ (cdv : Value) (A : Around) (outer : List Env) (s : Shared) (H : Hp) (E : XK), Room k (A.deeper (envOfC qual (defScope st) s.heap.objs.size f cdv)) → A.guards = some [] →
      BD (cxOf CX0 P w K mg base N qual (defScope st) f cdv A outer s H E).nox (defBody st) m) : FnG P w K mg base (k + 1) f fd ps (spD K ps.length (fnL N.length m)) := by
  refine fnG_body F S (fun vs H Q E ⟨hd, S, io, ws, w, S', r, d, hl, hm, hq⟩ => by rw [d.length]; exact hl) fun cdv A outer s H vs Q E hr hg ⟨hd, S, io, ws, w, S', r, d, hl, hm, hq⟩ => ⟨_, hb cdv A outer s H E hr hg, ?_⟩
  unfold fnL at hm
  split at hm
  · rename_i n S0 hrun
    split at hm
    · cases hm
    · rename_i hn
      split at hm
      · rename_i us hs
        obtain ⟨⟨hlt', hfz, ok⟩, e⟩ := if_some hm
        cases e
        refine ⟨hd, _, S, io, _, S0, r, start_ok d, hrun, fun v H' io' k' r' d' => ?_⟩
        obtain ⟨q1, q2, q3, q4⟩ := call_end r k' r' ok
        obtain ⟨a, rfl, ha⟩ := d'
        obtain ⟨b, u, hb', h1, fx⟩ := r'.fit n us hs (MO.fz_ne hfz)
        rw [ha] at hb'; cases hb'
        have hna : a ∉ io := fun z => by
          obtain ⟨m, e⟩ := List.getElem?_of_mem z
          have hm' := io_inj r'.nd ha (k'.ref m a e)
          subst hm'
          exact hn (by rw [← r.len]; exact (List.getElem?_eq_some_iff.mp e).1)
        have lva : Lv io' S0 a := ⟨n, us, ha, hs, MO.fz_ne hfz⟩
        have Hn : H a = none := by
          cases q : H a with
          | none => rfl
          | some o =>
            refine absurd lva (k'.keep a o q fun ⟨m, vs, e1, _⟩ => hna (List.mem_of_getElem? e1)).2
        have lv1 : ∀ b, Lv (io ++ [a]) (S0.take S.length ++ [us]) b → Lv io' S0 b := fun b ⟨m, vs, e1, e2, e3⟩ => by
          have hlen : io.length = (S0.take S.length).length := q4.len
          by_cases hm : m < io.length
          · rw [List.getElem?_append_left hm] at e1
            rw [List.getElem?_append_left (by omega)] at e2
            exact q2 b ⟨m, vs, e1, e2, e3⟩
          · rw [List.getElem?_append_right (by omega)] at e1
            have hz : m - io.length = 0 := by
              cases q : m - io.length with
              | zero => rfl
              | succ j => rw [q] at e1; simp at e1
            rw [hz] at e1
            have eb : a = b := by simpa using e1
            rw [← eb]; exact lva
        have cutI : ∀ (m : Nat) b, m < S.length → io'[m]? = some b → (io ++ [a])[m]? = some b := fun m b hm e => by
          rw [List.getElem?_append_left (by rw [r.len]; exact hm)]
          exact q1 m b hm e
        have hlen : io.length = (S0.take S.length).length := q4.len
        refine hq _ H' (io ++ [a]) ⟨k'.tup, k'.fx, fun b o h l => ⟨(k'.keep b o h l).1, fun z => (k'.keep b o h l).2 (lv1 b z)⟩, fun m b e => ?_⟩ ⟨by simp [hlen], ?_, fun b hb => ?_, fun b hb => ⟨(r'.hid b hb).1, fun z => ?_⟩, fun m vs s hvs => ?_⟩ ⟨a, rfl, by rw [← r.len]; simp⟩
        · rw [List.getElem?_append_left (List.getElem?_eq_some_iff.mp e).1]; exact e
        · refine List.nodup_append.mpr ⟨r.nd, by simp, fun b hb x hx => ?_⟩
          have ex : x = a := by simpa using hx
          subst ex
          exact fun z => hna (z ▸ hb)
        · rcases List.mem_append.mp hb with z | z
          · exact q4.trk b z
          · have eb : b = a := by simpa using z
            subst eb
            rw [h1]; exact fun z => nomatch z
        · rcases List.mem_append.mp z with z | z
          · exact (r.hid b hb).2 z
          · have eb : b = a := by simpa using z
            subst eb
            exact (r'.hid b hb).2 (List.mem_of_getElem? ha)
        · by_cases hm : m < (S0.take S.length).length
          · rw [List.getElem?_append_left hm] at s
            obtain ⟨b, y, e, g1, fy⟩ := q4.fit m vs s hvs
            have hml : m < S.length := by rw [List.length_take] at hm; omega
            rw [List.getElem?_take_of_lt hml] at s
            have hlt2 : vs.lt S.length = true := by
              rcases ok m vs hml s with q | q
              · obtain ⟨_, _, _, _, f0⟩ := r.fit m vs q hvs
                rw [← r.len]
                refine MO.lt_of ?_
                cases vs with
                | lst ws => obtain ⟨_, _, _, d⟩ := f0; exact Dns.lt _ _ d
                | dct ks vs => obtain ⟨_, _, _, _, d1, _, d2⟩ := f0; exact ⟨Dns.lt _ _ d1, Dns.lt _ _ d2⟩
                | dck ks vs => obtain ⟨_, _, _, _, d⟩ := f0; exact Dns.lt _ _ d
                | ob cl fs vs => obtain ⟨_, _, _, _, _, _, d⟩ := f0; exact Dns.lt _ _ d
                | gone => exact absurd rfl hvs
              · exact q
            obtain ⟨b', y', e', g1', fy'⟩ := r'.fit m vs s hvs
            have hb2 : b' = b := by
              have := k'.ref m b e
              rw [e'] at this; cases this; rfl
            subst hb2
            rw [g1] at g1'; cases g1'
            exact ⟨b', y, by rw [List.getElem?_append_left (List.getElem?_eq_some_iff.mp e).1]; exact e, g1, Fit.map (fun ws xs p d => Dns.cut cutI lv1 ws xs p d) (MO.lt_all hlt2) fy'⟩
          · rw [List.getElem?_append_right (by omega)] at s
            have hz : m - (S0.take S.length).length = 0 := by
              cases q : m - (S0.take S.length).length with
              | zero => rfl
              | succ j => rw [q] at s; simp at s
            rw [hz] at s
            have eu : vs = us := by simpa using s.symm
            subst eu
            have hmm : m = io.length := by omega
            subst hmm
            exact ⟨a, u, by simp, h1, Fit.map (fun ws xs p d => Dns.cut cutI lv1 ws xs p d) (MO.lt_all hlt') fx⟩
      · cases hm
  · cases hm
end
end DD
namespace DD
open PySem PySem.Spec PyProof.Rows L2
variable [IW : HasW]

/-! ## calls of defs -/
section
variable {X : Cx} {k : Nat} {f : Addr} {fd : FuncData} {ps ks : List Str} {n : Nat} {g : List Dv → M Dv} {x : Str} {p pos : Pos} {e : Expr} {es : List Expr} {kws : List Keyword}
theorem runG {pins : List (Addr × Obj)} {σ : L2.St} {H : Hp} {s : Shared} {Q : VK} {pa : List Value} {kw : List (Str × Value)} {us : List Value} {vs : List V} {sp : Sp} {E : XK} (F : FnG X.prog X.w X.K X.mg X.base k f fd ps sp) (hr : Room k X.A) (hgd : X.A.guards = some [])
    (I : L2.Inv X pins σ H s) (hb : BindsTo s fd ⟨pa, kw⟩ (ps.zip us)) (r : Vals vs us) (h : sp vs H Q E) : wpAny (model X.prog X.w) X.A (call (.ref f) pa kw) (EP X pins σ Q) X.xe s := by
  refine wpAny_call (codeAny_mono (F.run X.A X.stack s H ⟨pa, kw⟩ us vs Q E hr hgd I.env0 hb r h) ?_)
  intro res s' out
  match res, out with
  | .error _, out => exact out.elim
  | .ok (.ret u), out => exact I.after out
  | .ok .next, out => exact out.elim
  | .ok .brk, out => exact out.elim
  | .ok .cont, out => exact out.elim
def tG (sp : Sp) (t : TA) : TE := fun σ H Q => t σ H fun vs H1 => sp vs H1 Q E0
theorem peG {sp : Sp} {t : TA} (F : FnG X.prog X.w X.K X.mg X.base k f fd ps sp) (hr : Room k X.A) (hgd : X.A.guards = some []) (hg : Gl X x) (hm : X.mg x = some (.ref f)) (hk : PySem.W.keepIn X.K (.ref f) = true) (hb : Binds X.K fd ps [])
    (ha : PA X (e :: es) t) (hdb : (x == ("__debug__" : Str)) = false := by decide) (he : starEach (e :: es) X.env = (false, eval e X.env) :: starEach es X.env := by rfl) (hpl : (backTo pos (starEach es X.env)).any (·.1) = false := by rfl) :
    PE X (.Call (.Name x p) (e :: es) [] pos) (tG sp t) := by
  constructor
  intro pins s σ H Q I h
  apply wpAny_Call_Name_kw
  refine ld_glob I hg hm ?_ hdb
  refine PySem.W.callWith_K (h₀ := X.base) I.ok.mod.kin hk ?_ he hpl
  refine thn (ha.run pos pins s σ H _ I h) ?_
  rintro us s1 ⟨vs, H1, I1, r, q⟩
  have hl : us.length = ps.length := by rw [← r.length]; exact F.len _ _ _ _ q
  have bt := hb s1 us I1.kIn (by rw [List.append_nil]; exact hl)
  rw [List.append_nil] at bt
  exact ⟨I1.kIn, runG F hr hgd I1 bt r q⟩
/-- the arguments in the parameters' order -/
def pick {α : Type} (ix : List Nat) (xs : List α) : List α := ix.filterMap fun i => xs[i]?
theorem pick_vals {vs : List V} {us : List Value} (r : Vals vs us) : ∀ ix : List Nat, Vals (pick ix vs) (pick ix us)
  | [] => .nil
  | i :: ix => by
    have ih := pick_vals r ix
    unfold pick at ih ⊢
    cases h : vs[i]? with
    | none =>
      have h' := r.none_of h
      simpa [List.filterMap_cons, h, h'] using ih
    | some v =>
      obtain ⟨u, h', rv⟩ := r.get h
      simp only [List.filterMap_cons, h, h']
      exact .cons rv ih
theorem pick_dns {c : Cf} {H : Hp} {io : List Addr} {S : Sto} {ws : List Dv} {vs : List V} (d : Dns c H io S ws vs) : ∀ ix : List Nat, Dns c H io S (pick ix ws) (pick ix vs)
  | [] => rfl
  | i :: ix => by
    have ih := pick_dns d ix
    unfold pick at ih ⊢
    cases h : ws[i]? with
    | none =>
      have h' : vs[i]? = none := by
        rw [List.getElem?_eq_none_iff] at h ⊢
        rw [d.length]; exact h
      simpa [List.filterMap_cons, h, h'] using ih
    | some w =>
      obtain ⟨v, h', dv⟩ := d.get h
      simp only [List.filterMap_cons, h, h']
      exact ⟨v, _, rfl, dv, ih⟩
/-- np positional arguments, then keywords ks; ix: where each parameter's value stands -/
def KB (fd : FuncData) (ps ks : List Str) (np : Nat) (ix : List Nat) : Prop := ∀ us ws : List Value, us.length = np → ws.length = ks.length → bindArgs fd ⟨us, ks.zip ws⟩ = pure (ps.zip (pick ix (us ++ ws)))
def tGK (sp : Sp) (np : Nat) (ks : List Str) (ix : List Nat) (t tk : TA) : TE := fun σ H Q => t σ H fun vs H1 => tk σ H1 fun zs H2 => vs.length = np ∧ zs.length = ks.length ∧ sp (pick ix (vs ++ zs)) H2 Q E0
theorem peGK {sp : Sp} {t tk : TA} {np : Nat} {ix : List Nat} (F : FnG X.prog X.w X.K X.mg X.base k f fd ps sp) (hr : Room k X.A) (hgd : X.A.guards = some []) (hg : Gl X x) (hm : X.mg x = some (.ref f)) (hk : PySem.W.keepIn X.K (.ref f) = true) (hb : KB fd ps ks np ix)
    (ha : PA X (e :: es) t) (hkw : PK X kws tk) (hall : (backToKw pos (keywordEach kws X.env)).all (·.1.isSome) = true := by rfl) (hks : (backToKw pos (keywordEach kws X.env)).filterMap (·.1) = ks := by rfl)
    (hdb : (x == ("__debug__" : Str)) = false := by decide) (he : starEach (e :: es) X.env = (false, eval e X.env) :: starEach es X.env := by rfl)
    (hpl : ((backTo pos (starEach (e :: es) X.env)).any (·.1) || (backToKw pos (keywordEach kws X.env)).any (·.1.isNone)) = false := by rfl) : PE X (.Call (.Name x p) (e :: es) kws pos) (tGK sp np ks ix t tk) := by
  constructor
  intro pins s σ H Q I h
  apply wpAny_Call_Name_kw
  refine ld_glob I hg hm ?_ hdb
  refine PySem.W.callWith_KW (h₀ := X.base) I.ok.mod.kin hk hall ?_ hpl he
  refine thn (ha.run pos pins s σ H _ I h) ?_
  rintro us s1 ⟨vs, H1, I1, r, q⟩
  refine thn (hkw.run pos pins s1 σ H1 _ I1 q) ?_
  rintro ws s2 ⟨zs, H2, I2, rz, q1, q2, q3⟩
  refine ⟨I2.kIn, ?_⟩
  rw [hks]
  exact runG F hr hgd I2 (.of_eq (hb us ws (by rw [← r.length]; exact q1) (by rw [← rz.length]; exact q2))) (pick_vals (r.append rz) ix) q3
theorem peGK0 {sp : Sp} {tk : TA} {ix : List Nat} (F : FnG X.prog X.w X.K X.mg X.base k f fd ps sp) (hr : Room k X.A) (hgd : X.A.guards = some []) (hg : Gl X x) (hm : X.mg x = some (.ref f)) (hk : PySem.W.keepIn X.K (.ref f) = true) (hb : KB fd ps ks 0 ix)
    (hkw : PK X kws tk) (hall : (backToKw pos (keywordEach kws X.env)).all (·.1.isSome) = true := by rfl) (hks : (backToKw pos (keywordEach kws X.env)).filterMap (·.1) = ks := by rfl)
    (hdb : (x == ("__debug__" : Str)) = false := by decide)
    (hpl : ((backTo pos (starEach [] X.env)).any (·.1) || (backToKw pos (keywordEach kws X.env)).any (·.1.isNone)) = false := by rfl) : PE X (.Call (.Name x p) [] kws pos) (tGK sp 0 ks ix tNil tk) := by
  constructor
  intro pins s σ H Q I h
  apply wpAny_Call_Name_kw
  refine ld_glob I hg hm ?_ hdb
  refine PySem.W.callWith_KW0 (h₀ := X.base) I.ok.mod.kin hk hall ?_ hpl
  refine thn (hkw.run pos pins s σ H _ I h) ?_
  rintro ws s2 ⟨zs, H2, I2, rz, q1, q2, q3⟩
  refine ⟨I2.kIn, ?_⟩
  rw [hks]
  exact runG (us := pick ix ws) F hr hgd I2 (.of_eq (hb [] ws rfl (by rw [← rz.length]; exact q2))) (pick_vals rz ix) q3
def callD (n : Nat) (g : List Dv → M Dv) (m : M (List Dv)) : M Dv := M.bind m fun ws => if ws.length = n then g ws else M.no
theorem ed_call {m : En → M (List Dv)} (F : FnG X.prog X.w X.K X.mg X.base k f fd ps (spD X.K n g)) (hr : Room k X.A) (hgd : X.A.guards = some []) (hg : Gl X x) (hm : X.mg x = some (.ref f)) (hk : PySem.W.keepIn X.K (.ref f) = true) (hb : Binds X.K fd ps [])
    (ha : AD X (e :: es) m) (hdb : (x == ("__debug__" : Str)) = false := by decide) (he : starEach (e :: es) X.env = (false, eval e X.env) :: starEach es X.env := by rfl) (hpl : (backTo pos (starEach es X.env)).any (·.1) = false := by rfl) :
    ED X (.Call (.Name x p) (e :: es) [] pos) (fun env => callD n g (m env)) := ed_of (peG F hr hgd hg hm hk hb ha hdb he hpl) (by
  rintro σ H Q ⟨hd, env, S, io, w, S', r, en, hm, hq⟩
  obtain ⟨ws, S1, h1, hm⟩ := M.bind_some hm
  split at hm
  · rename_i hl
    exact ⟨hd, env, S, io, ws, S1, r, en, h1, fun vs H1 io1 k1 r1 d1 => ⟨hd, S1, io1, ws, w, S', r1, d1, hl, hm, hq.after k1⟩⟩
  · cases hm)
theorem kb_of {K : PySem.W.Frag} {x qual : Str} {st : Stmt} {np : Nat} {ix : List Nat} (F : Fun K x qual st f fd)
    (h : ∀ (kV doc pm : Value) (an : Option Addr) (cdv ct : Value) (us ws : List Value), us.length = np → ws.length = ks.length → bindArgs (PySem.W.fnOf x qual (defArgs st) (defBody st) (defScope st) .none kV doc pm an cdv ct) ⟨us, ks.zip ws⟩ = pure (ps.zip (pick ix (us ++ ws)))) : KB fd ps ks np ix := by
  obtain ⟨oc, od, kV, doc, pm, an, cdv, ct, osl, rfl, _, _⟩ := F.ex
  exact h kV doc pm an cdv ct
/-- the keywords' values -/
abbrev KD (X : Cx) (kws : List Keyword) (m : En → M (List Dv)) : Prop := PK X kws (tDA X.K m)
theorem kd_nil : KD X [] (fun _ => M.ret []) := ⟨fun pos pins s σ H Q I h => pk_nil.run pos pins s σ H Q I (by
  obtain ⟨hd, env, S, io, w, S', r, en, hm, hq⟩ := h
  obtain ⟨rfl, rfl⟩ := M.ret_some hm
  exact hq [] H io Kp.refl r rfl)⟩
theorem kd_cons {nm : Option Str} {kpos : Pos} {m : En → M Dv} {n : En → M (List Dv)} (h : ED X e m) (h' : KD X kws n) : KD X (⟨nm, e, kpos⟩ :: kws) (fun env => consA (m env) (n env)) := ⟨fun pos pins s σ H Q I hw => (pk_cons h h').run pos pins s σ H Q I (by
  obtain ⟨hd, env, S, io, ws, S', r, en, hm, hq⟩ := hw
  obtain ⟨x, S1, h1, hm⟩ := M.bind_some hm
  obtain ⟨y, S2, h2, hm⟩ := M.bind_some hm
  obtain ⟨rfl, rfl⟩ := M.ret_some hm
  refine ⟨hd, env, S, io, x, S1, r, en, h1, fun v H1 io1 k1 r1 d1 => ?_⟩
  refine ⟨hd, env, S1, io1, y, _, r1, en.mono k1, h2, fun vs H2 io2 k2 r2 d2 => ?_⟩
  exact hq _ H2 io2 (k1.trans k2) r2 ⟨v, vs, rfl, Dn.mono k2 _ _ d1, d2⟩)⟩
def callK (np nk : Nat) (ix : List Nat) (n : Nat) (g : List Dv → M Dv) (m mk : M (List Dv)) : M Dv := M.bind m fun us => M.bind mk fun zs => if us.length = np ∧ zs.length = nk ∧ (pick ix (us ++ zs)).length = n then g (pick ix (us ++ zs)) else M.no
theorem ed_callK {m mk : En → M (List Dv)} {np : Nat} {ix : List Nat} (F : FnG X.prog X.w X.K X.mg X.base k f fd ps (spD X.K n g)) (hr : Room k X.A) (hgd : X.A.guards = some []) (hg : Gl X x) (hm : X.mg x = some (.ref f)) (hk : PySem.W.keepIn X.K (.ref f) = true) (hb : KB fd ps ks np ix)
    (ha : AD X (e :: es) m) (hkw : KD X kws mk) (hall : (backToKw pos (keywordEach kws X.env)).all (·.1.isSome) = true := by rfl) (hks : (backToKw pos (keywordEach kws X.env)).filterMap (·.1) = ks := by rfl)
    (hdb : (x == ("__debug__" : Str)) = false := by decide) (he : starEach (e :: es) X.env = (false, eval e X.env) :: starEach es X.env := by rfl)
    (hpl : ((backTo pos (starEach (e :: es) X.env)).any (·.1) || (backToKw pos (keywordEach kws X.env)).any (·.1.isNone)) = false := by rfl) : ED X (.Call (.Name x p) (e :: es) kws pos) (fun env => callK np ks.length ix n g (m env) (mk env)) := ed_of (peGK F hr hgd hg hm hk hb ha hkw hall hks hdb he hpl) (by
  rintro σ H Q ⟨hd, env, S, io, w, S', r, en, hm, hq⟩
  obtain ⟨us, S1, h1, hm⟩ := M.bind_some hm
  obtain ⟨zs, S2, h2, hm⟩ := M.bind_some hm
  split at hm
  · rename_i hc
    refine ⟨hd, env, S, io, us, S1, r, en, h1, fun vs H1 io1 k1 r1 d1 => ⟨hd, env, S1, io1, zs, S2, r1, en.mono k1, h2, fun ys H2 io2 k2 r2 d2 => ⟨by rw [d1.length]; exact hc.1, by rw [d2.length]; exact hc.2.1, ?_⟩⟩⟩
    exact ⟨hd, S2, io2, _, w, S', r2, pick_dns ((Dns.mono k2 _ _ d1).append d2) ix, hc.2.2, hm, hq.after (k1.trans k2)⟩
  · cases hm)
theorem ed_callK0 {mk : En → M (List Dv)} {ix : List Nat} (F : FnG X.prog X.w X.K X.mg X.base k f fd ps (spD X.K n g)) (hr : Room k X.A) (hgd : X.A.guards = some []) (hg : Gl X x) (hm : X.mg x = some (.ref f)) (hk : PySem.W.keepIn X.K (.ref f) = true) (hb : KB fd ps ks 0 ix)
    (hkw : KD X kws mk) (hall : (backToKw pos (keywordEach kws X.env)).all (·.1.isSome) = true := by rfl) (hks : (backToKw pos (keywordEach kws X.env)).filterMap (·.1) = ks := by rfl)
    (hdb : (x == ("__debug__" : Str)) = false := by decide)
    (hpl : ((backTo pos (starEach [] X.env)).any (·.1) || (backToKw pos (keywordEach kws X.env)).any (·.1.isNone)) = false := by rfl) : ED X (.Call (.Name x p) [] kws pos) (fun env => callK 0 ks.length ix n g (M.ret []) (mk env)) := ed_of (peGK0 F hr hgd hg hm hk hb hkw hall hks hdb hpl) (by
  rintro σ H Q ⟨hd, env, S, io, w, S', r, en, hrun, hq⟩
  have hrun : M.bind (mk env) (fun zs => if ([] : List Dv).length = 0 ∧ zs.length = ks.length ∧ (pick ix ([] ++ zs)).length = n then g (pick ix ([] ++ zs)) else M.no) S = some (w, S') := hrun
  obtain ⟨zs, S2, h2, hrun⟩ := M.bind_some hrun
  split at hrun
  · rename_i hc
    refine ⟨hd, env, S, io, zs, S2, r, en, h2, fun ys H2 io2 k2 r2 d2 => ⟨rfl, by rw [d2.length]; exact hc.2.1, ?_⟩⟩
    exact ⟨hd, S2, io2, _, w, S', r2, pick_dns d2 ix, hc.2.2, hrun, hq.after k2⟩
  · cases hrun)

/-! ## calls of built-ins -/
def rDA (K : PySem.W.Frag) (g : List Dv → M Dv) : List V → Hp → VK → Prop := fun vs H Q => ∃ hd S io ws w S', Rst ⟨K, hd⟩ H io S ∧ Dns ⟨K, hd⟩ H io S ws vs ∧ g ws S = some (w, S') ∧ Post ⟨K, hd⟩ H io S w S' Q
abbrev CD (X : Cx) (f : Value) (g : List Dv → M Dv) : Prop := CallR X f (rDA X.K g)
theorem ed_cb {t : TE} {m : En → M (List Dv)} (h : PE X e t) (q : ∀ σ H Q, tCB (rDA X.K g) (tDA X.K m) σ H Q → t σ H Q) : ED X e (fun env => M.bind (m env) g) := ed_of h (by
  rintro σ H Q ⟨hd, env, S, io, w, S', r, en, hm, hq⟩
  obtain ⟨ws, S1, h1, hm⟩ := M.bind_some hm
  exact q σ H Q ⟨hd, env, S, io, ws, S1, r, en, h1, fun vs H1 io1 k1 r1 d1 => ⟨hd, S1, io1, ws, w, S', r1, d1, hm, hq.after k1⟩⟩)
theorem ed_callB {id : String} {m : En → M (List Dv)} (hc : CD X (.builtin id) g) (hg : Gl X x) (hm : X.mg x = none) (hv : bootBuiltins x = some (.builtin id)) (ha : AD X (e :: es) m) (hn : x ≠ "__name__" := by decide) (hdb : (x == ("__debug__" : Str)) = false := by decide)
    (he : starEach (e :: es) X.env = (false, eval e X.env) :: starEach es X.env := by rfl) (hpl : (backTo pos (starEach es X.env)).any (·.1) = false := by rfl) : ED X (.Call (.Name x p) (e :: es) [] pos) (fun env => M.bind (m env) g) := ed_cb (pe_callB hc hg hm hv ha hn hdb he hpl) fun _ _ _ h => h
theorem ed_callTy {T : String} {m : En → M (List Dv)} (hc : CD X (.type T) g) (hg : Gl X x) (hm : X.mg x = none) (hv : bootBuiltins x = some (.type T)) (ha : AD X (e :: es) m) (hn : x ≠ "__name__" := by decide) (hdb : (x == ("__debug__" : Str)) = false := by decide)
    (he : starEach (e :: es) X.env = (false, eval e X.env) :: starEach es X.env := by rfl) (hpl : (backTo pos (starEach es X.env)).any (·.1) = false := by rfl) : ED X (.Call (.Name x p) (e :: es) [] pos) (fun env => M.bind (m env) g) := ed_cb (pe_callTy hc hg hm hv ha hn hdb he hpl) fun _ _ _ h => h
theorem dns1 {c : Cf} {H : Hp} {io : List Addr} {S : Sto} {w : Dv} {vs : List V} (d : Dns c H io S [w] vs) : ∃ v, vs = [v] ∧ Dn c H io S w v := by
  obtain ⟨v, vr, rfl, h1, h2⟩ := d
  have h2 : vr = [] := h2
  subst h2
  exact ⟨v, rfl, h1⟩
theorem dns2 {c : Cf} {H : Hp} {io : List Addr} {S : Sto} {w w2 : Dv} {vs : List V} (d : Dns c H io S [w, w2] vs) : ∃ v v2, vs = [v, v2] ∧ Dn c H io S w v ∧ Dn c H io S w2 v2 := by
  obtain ⟨v, vr, rfl, h1, h2⟩ := d
  obtain ⟨v2, rfl, h3⟩ := dns1 h2
  exact ⟨v, v2, rfl, h1, h3⟩
def lenD (ws : List Dv) : M Dv := match ws with
  | [w] => fun S => match sqV S w with
    | some us => some (.int us.length, S)
    | none => none
  | _ => M.no
theorem cd_len : CD X (.builtin "len") lenD := by
  rintro pins s σ H xs us Q I rv ⟨hd, S, io, ws, w, S', r, d, hm, hq⟩
  unfold lenD at hm
  split at hm
  · obtain ⟨v, rfl, dv⟩ := dns1 d
    split at hm
    · rename_i ls hs
      cases hm
      obtain ⟨a, ys, rfl, hx, dx⟩ := sqV_at r dv hs
      exact call_len_seq pins s σ H _ us Q I rv ⟨a, ys, rfl, hx, hq.self r (by rw [dx.length]; rfl)⟩
    · cases hm
  · cases hm
/-- a list or tuple as a tuple, as a new list -/
def tupleD (ws : List Dv) : M Dv := match ws with
  | [w] => fun S => match sqV S w with
    | some us => some (.tup us, S)
    | none => none
  | _ => M.no
theorem cd_tuple : CD X (.type "tuple") tupleD := by
  rintro pins s σ H xs us Q I rv ⟨hd, S, io, ws, w, S', r, d, hm, hq⟩
  unfold tupleD at hm
  split at hm
  · rename_i wv
    obtain ⟨v, rfl, dv⟩ := dns1 d
    split at hm
    · rename_i ls hs
      cases hm
      cases wv with
      | tup us' =>
        cases hs
        obtain ⟨a, ys, rfl, hx, dx⟩ := dv
        exact call_tuple_of pins s σ H _ us Q I rv ⟨a, ys, rfl, .inr ⟨hx.sq, hq.self r ⟨a, ys, rfl, hx, dx⟩⟩⟩
      | kls us' =>
        cases hs
        obtain ⟨a, ys, rfl, hx, dx⟩ := dv
        exact call_tuple_of pins s σ H _ us Q I rv ⟨a, ys, rfl, .inl ⟨hx.sq, fun p hp => hq _ _ io (Kp.fresh hp) (r.fresh hp) (new_tup hp dx)⟩⟩
      | lst us' =>
        obtain ⟨a, ys, rfl, hx, _, dx⟩ := lsV_at r dv hs
        exact call_tuple_of pins s σ H _ us Q I rv ⟨a, ys, rfl, .inl ⟨.of hx, fun p hp => hq _ _ io (Kp.fresh hp) (r.fresh hp) (new_tup hp dx)⟩⟩
      | ref n =>
        obtain ⟨a, ys, rfl, hx, _, dx⟩ := lsV_at r dv hs
        exact call_tuple_of pins s σ H _ us Q I rv ⟨a, ys, rfl, .inl ⟨.of hx, fun p hp => hq _ _ io (Kp.fresh hp) (r.fresh hp) (new_tup hp dx)⟩⟩
      | _ => cases hs
    · cases hm
  · cases hm
def listD (ws : List Dv) : M Dv := match ws with
  | [w] => fun S => match sqV S w with
    | some us => if us.length ≤ sizeLine then some (.lst us, S) else none
    | none => none
  | _ => M.no
theorem cd_list : CD X (.type "list") listD := by
  rintro pins s σ H xs us Q I rv ⟨hd, S, io, ws, w, S', r, d, hm, hq⟩
  unfold listD at hm
  split at hm
  · obtain ⟨v, rfl, dv⟩ := dns1 d
    split at hm
    · rename_i ls hs
      obtain ⟨hz, e⟩ := if_some hm
      cases e
      obtain ⟨a, ys, rfl, hx, dx⟩ := sqV_at r dv hs
      exact call_list_of pins s σ H _ us Q I rv ⟨a, ys, rfl, hx, fun p hp => hq _ _ io (Kp.fresh hp) (r.fresh hp) (new_lst r hp (by rw [dx.length]; exact hz) dx)⟩
    · cases hm
  · cases hm
/-- truth values -/
def boolsOf : List Dv → Option (List Bool)
  | [] => some []
  | .bl b :: ws => match boolsOf ws with
    | some bs => some (b :: bs)
    | none => none
  | _ :: _ => none
theorem boolsOf_at {c : Cf} {H : Hp} {io : List Addr} {S : Sto} : ∀ {ws : List Dv} {vs : List V} {bs : List Bool}, Dns c H io S ws vs → boolsOf ws = some bs → vs = bs.map V.bl
  | [], vs, bs, d, h => by
    cases h
    exact d
  | .bl b :: ws, vs, bs, d, h => by
    unfold boolsOf at h
    split at h
    · rename_i bs' h'
      cases h
      obtain ⟨v, vr, rfl, h1, h2⟩ := d
      have h1 : v = .bl b := h1
      rw [h1, boolsOf_at h2 h']
      rfl
    · cases h
  | .non :: _, _, _, _, h => by cases h
  | .int _ :: _, _, _, _, h => by cases h
  | .str _ :: _, _, _, _, h => by cases h
  | .tup _ :: _, _, _, _, h => by cases h
  | .lst _ :: _, _, _, _, h => by cases h
  | .kls _ :: _, _, _, _, h => by cases h
  | .ref _ :: _, _, _, _, h => by cases h
  | .ty _ :: _, _, _, _, h => by cases h
  | .fx _ :: _, _, _, _, h => by cases h
theorem boolsOf_map : ∀ bs : List Bool, boolsOf (bs.map .bl) = some bs
  | [] => rfl
  | b :: bs => by
    show (match boolsOf (bs.map .bl) with | some bs => some (b :: bs) | none => none) = _
    rw [boolsOf_map bs]
def allD (ws : List Dv) : M Dv := match ws with
  | [w] => fun S => match lsV S w with
    | some us => match boolsOf us with
      | some bs => some (.bl (bs.all id), S)
      | none => none
    | none => none
  | _ => M.no
def anyD (ws : List Dv) : M Dv := match ws with
  | [w] => fun S => match lsV S w with
    | some us => match boolsOf us with
      | some bs => some (.bl (bs.any id), S)
      | none => none
    | none => none
  | _ => M.no
theorem cd_all (hc : X.calm = true) : CD X (.builtin "all") allD := by
  rintro pins s σ H xs us Q I rv ⟨hd, S, io, ws, w, S', r, d, hm, hq⟩
  unfold allD at hm
  split at hm
  · obtain ⟨v, rfl, dv⟩ := dns1 d
    split at hm
    · rename_i ls hs
      split at hm
      · rename_i bs hb
        cases hm
        obtain ⟨a, ys, rfl, hx, _, dx⟩ := lsV_at r dv hs
        exact cr_all hc pins s σ H _ us Q I rv ⟨a, bs, rfl, by rw [← boolsOf_at dx hb]; exact .of hx, hq.self r rfl⟩
      · cases hm
    · cases hm
  · cases hm
theorem cd_any (hc : X.calm = true) : CD X (.builtin "any") anyD := by
  rintro pins s σ H xs us Q I rv ⟨hd, S, io, ws, w, S', r, d, hm, hq⟩
  unfold anyD at hm
  split at hm
  · obtain ⟨v, rfl, dv⟩ := dns1 d
    split at hm
    · rename_i ls hs
      split at hm
      · rename_i bs hb
        cases hm
        obtain ⟨a, ys, rfl, hx, _, dx⟩ := lsV_at r dv hs
        exact cr_any hc pins s σ H _ us Q I rv ⟨a, bs, rfl, by rw [← boolsOf_at dx hb]; exact .of hx, hq.self r rfl⟩
      · cases hm
    · cases hm
  · cases hm
def absD (ws : List Dv) : M Dv := match ws with
  | [.int i] => M.ret (.int (if i < 0 then -i else i))
  | _ => M.no
theorem cd_abs : CD X (.builtin "abs") absD := by
  rintro pins s σ H xs us Q I rv ⟨hd, S, io, ws, w, S', r, d, hm, hq⟩
  unfold absD at hm
  split at hm
  · obtain ⟨v, rfl, dv⟩ := dns1 d
    obtain ⟨rfl, rfl⟩ := M.ret_some hm
    exact call_abs pins s σ H _ us Q I rv ⟨_, by rw [show v = .int _ from dv], hq.self r rfl⟩
  · cases hm
def maxD (ws : List Dv) : M Dv := match ws with
  | [.int i, .int j] => M.ret (.int (if j > i then j else i))
  | _ => M.no
def minD (ws : List Dv) : M Dv := match ws with
  | [.int i, .int j] => M.ret (.int (if j < i then j else i))
  | _ => M.no
theorem cd_max (hc : X.calm = true) : CD X (.builtin "max") maxD := by
  rintro pins s σ H xs us Q I rv ⟨hd, S, io, ws, w, S', r, d, hm, hq⟩
  unfold maxD at hm
  split at hm
  · obtain ⟨v, v2, rfl, dv, dv2⟩ := dns2 d
    obtain ⟨rfl, rfl⟩ := M.ret_some hm
    exact call_max2 hc pins s σ H _ us Q I rv ⟨_, _, by rw [show v = .int _ from dv, show v2 = .int _ from dv2], hq.self r rfl⟩
  · cases hm
theorem cd_min (hc : X.calm = true) : CD X (.builtin "min") minD := by
  rintro pins s σ H xs us Q I rv ⟨hd, S, io, ws, w, S', r, d, hm, hq⟩
  unfold minD at hm
  split at hm
  · obtain ⟨v, v2, rfl, dv, dv2⟩ := dns2 d
    obtain ⟨rfl, rfl⟩ := M.ret_some hm
    exact call_min2 hc pins s σ H _ us Q I rv ⟨_, _, by rw [show v = .int _ from dv, show v2 = .int _ from dv2], hq.self r rfl⟩
  · cases hm
def intD (ws : List Dv) : M Dv := match ws with
  | [.int i] => M.ret (.int i)
  | [.bl b] => M.ret (.int (if b then 1 else 0))
  | _ => M.no
theorem cd_int : CD X (.type "int") intD := by
  rintro pins s σ H xs us Q I rv ⟨hd, S, io, ws, w, S', r, d, hm, hq⟩
  unfold intD at hm
  split at hm
  · obtain ⟨v, rfl, dv⟩ := dns1 d
    obtain ⟨rfl, rfl⟩ := M.ret_some hm
    exact call_int1 pins s σ H _ us Q I rv (.inl ⟨_, by rw [show v = .int _ from dv], hq.self r rfl⟩)
  · obtain ⟨v, rfl, dv⟩ := dns1 d
    obtain ⟨rfl, rfl⟩ := M.ret_some hm
    exact call_int1 pins s σ H _ us Q I rv (.inr ⟨_, by rw [show v = .bl _ from dv], hq.self r rfl⟩)
  · cases hm
def divmodD (ws : List Dv) : M Dv := match ws with
  | [.int i, .int j] => fun S => if CDivP i j then some (.tup [.int (i / j), .int (i % j)], S) else none
  | _ => M.no
theorem cd_divmod : CD X (.builtin "divmod") divmodD := by
  rintro pins s σ H xs us Q I rv ⟨hd, S, io, ws, w, S', r, d, hm, hq⟩
  unfold divmodD at hm
  split at hm
  · obtain ⟨v, v2, rfl, dv, dv2⟩ := dns2 d
    obtain ⟨hc, e⟩ := if_some hm
    cases e
    refine call_divmodW pins s σ H _ us Q I rv ⟨_, _, by rw [show v = .int _ from dv, show v2 = .int _ from dv2], hc, fun p hp => ?_⟩
    exact hq _ _ io (Kp.fresh hp) (r.fresh hp) (new_tup hp ⟨_, _, rfl, rfl, _, _, rfl, rfl, rfl⟩)
  · cases hm
/-- isinstance(x, T), T built-in, or a written tuple of such -/
def tyN : Dv → Option String
  | .non => some "NoneType"
  | .bl _ => some "bool"
  | .int _ => some "int"
  | .str _ => some "str"
  | .tup _ => some "tuple"
  | .lst _ => some "list"
  | .kls _ => some "list"
  | .ref _ => some "list"
  | _ => none
def liveOk (S : Sto) : Dv → Bool
  | .ref n => (stL S n).isSome
  | _ => true
theorem tyN_at {hd : List Addr} {H : Hp} {io : List Addr} {S : Sto} {w : Dv} {v : V} {T : String} (r : Rst ⟨X.K, hd⟩ H io S) (d : Dn ⟨X.K, hd⟩ H io S w v) (h : tyN w = some T) (hl : liveOk S w = true) : TyX X.K H v (.type T) := by
  cases w with
  | non => cases h; have e : v = .non := d; subst e; exact .base .non
  | bl b => cases h; have e : v = .bl b := d; subst e; exact .base (.bl b)
  | int b => cases h; have e : v = .int b := d; subst e; exact .base (.int b)
  | str b => cases h; have e : v = .str b := d; subst e; exact .base (.str b)
  | tup ws =>
    cases h
    obtain ⟨a, xs, rfl, hx, _⟩ := d
    rcases hx with hx | (hx | ⟨o, hx⟩) | ⟨o, _, _, hx, hc, _⟩
    · exact .base (.tup hx)
    · cases hx
    · cases hx
    · exact .kTuple hx hc
  | lst ws => cases h; obtain ⟨a, xs, rfl, hx, _⟩ := d; exact .base (.lst hx)
  | kls ws =>
    cases h
    obtain ⟨a, xs, rfl, hx, _⟩ := d
    rcases hx with ⟨o, hx⟩ | (hx | ⟨o, hx⟩) | ⟨o, _, _, hx, hc, _⟩
    · exact .base (.frz hx)
    · cases hx
    · cases hx
    · exact .kList hx hc
  | ref n =>
    cases h
    obtain ⟨a, rfl, ha⟩ := d
    have : (stL S n).isSome = true := hl
    cases hs : stL S n with
    | none => rw [hs] at this; cases this
    | some ws =>
      obtain ⟨b, xs, hb, hH, _⟩ := r.obj n ws (stL_some hs)
      rw [ha] at hb; cases hb
      exact .base (.lst hH)
  | ty n => cases h
  | fx a => cases h
  | dct ks vs => cases h
  | dck ks vs => cases h
  | ob cl fs vs => cases h
  | sti ns => cases h
  | cl ns => cases h
  | stt ns => cases h
def kitAnyB (a : String) : List Dv → Option Bool
  | [] => some false
  | .ty b :: r => match kitB a b with
    | some true => some true
    | some false => kitAnyB a r
    | none => none
  | _ :: _ => none
def isiD (ws : List Dv) : M Dv := match ws with
  | [w, t] => fun S => match tyN w with
    | some a => if liveOk S w = true then match t with
      | .ty b => match kitB a b with
        | some r => some (.bl r, S)
        | none => none
      | .tup ts => match kitAnyB a ts with
        | some r => some (.bl r, S)
        | none => none
      | _ => none else none
    | none => none
  | _ => M.no
theorem kitAnyB_at {K : PySem.W.Frag} {a : String} : ∀ {ts : List Dv} {r : Bool} {us : List Value}, kitAnyB a ts = some r → (us = ts.filterMap fun t => match t with | .ty b => some (Value.type b) | _ => none) → PySem.W.kitAny K (.type a) us = some r
  | [], r, us, h, e => by
    subst e; exact h
  | .ty b :: ts, r, us, h, e => by
    subst e
    unfold kitAnyB at h
    split at h
    · rename_i h1
      cases h
      exact kitAny_cons (kit_ty h1) (fun z => nomatch z) (fun _ => rfl)
    · rename_i h1
      exact kitAny_cons (kit_ty h1) (fun _ => kitAnyB_at h rfl) (fun z => nomatch z)
    · cases h
  | .non :: _, _, _, h, _ => by cases h
  | .bl _ :: _, _, _, h, _ => by cases h
  | .int _ :: _, _, _, h, _ => by cases h
  | .str _ :: _, _, _, h, _ => by cases h
  | .tup _ :: _, _, _, h, _ => by cases h
  | .lst _ :: _, _, _, h, _ => by cases h
  | .kls _ :: _, _, _, h, _ => by cases h
  | .ref _ :: _, _, _, h, _ => by cases h
  | .fx _ :: _, _, _, h, _ => by cases h
theorem kitAnyB_cls {a : String} {c : Cf} {H : Hp} {io : List Addr} {S : Sto} : ∀ {ts : List Dv} {r : Bool} {vs : List V}, kitAnyB a ts = some r → Dns c H io S ts vs → (∀ t ∈ ts, ∃ n, t = .ty n) → Paired ClsV vs (ts.filterMap fun t => match t with | .ty b => some (Value.type b) | _ => none)
  | [], r, vs, h, d, _ => by
    have e : vs = [] := d
    subst e; exact .nil
  | t :: ts, r, vs, h, d, hall => by
    obtain ⟨v, vr, rfl, h1, h2⟩ := d
    obtain ⟨n, rfl⟩ := hall t List.mem_cons_self
    have h1 : v = .ty n := h1
    subst h1
    have hall' : ∀ t ∈ ts, ∃ n, t = .ty n := fun t ht => hall t (List.mem_cons_of_mem _ ht)
    have rest : Paired ClsV vr (ts.filterMap fun t => match t with | .ty b => some (Value.type b) | _ => none) := by
      clear h
      induction ts generalizing vr with
      | nil => have e : vr = [] := h2; subst e; exact .nil
      | cons t' ts' ih =>
        obtain ⟨v', vr', rfl, g1, g2⟩ := h2
        obtain ⟨n', rfl⟩ := hall' t' List.mem_cons_self
        have g1 : v' = .ty n' := g1
        subst g1
        exact .cons (.ty n') (ih vr' g2 (fun t ht => hall t (by rcases List.mem_cons.mp ht with rfl | ht; exact List.mem_cons_self; exact List.mem_cons_of_mem _ (List.mem_cons_of_mem _ ht))) (fun t ht => hall' t (List.mem_cons_of_mem _ ht)))
    exact .cons (.ty n) rest
def allTy (ts : List Dv) : Bool := ts.all fun t => match t with | .ty _ => true | _ => false
theorem allTy_of {ts : List Dv} (h : allTy ts = true) : ∀ t ∈ ts, ∃ n, t = .ty n := fun t ht => by
  have := List.all_eq_true.mp h t ht
  cases t with
  | ty n => exact ⟨n, rfl⟩
  | _ => cases this
end
section
variable {X : Cx}
def isiDD (ws : List Dv) : M Dv := fun S => match ws with
  | [w, .ty b] => match tyN w with
    | some a => if liveOk S w = true then match kitB a b with
      | some r => some (.bl r, S)
      | none => none else none
    | none => none
  | [w, .tup ts] => match tyN w with
    | some a => if liveOk S w = true ∧ allTy ts = true then match kitAnyB a ts with
      | some r => some (.bl r, S)
      | none => none else none
    | none => none
  | _ => none
theorem cd_isi : CD X (.builtin "isinstance") isiDD := by
  rintro pins s σ H xs us Q I rv ⟨hd, S, io, ws, w, S', r, d, hm, hq⟩
  unfold isiDD at hm
  split at hm
  · rename_i wv b
    obtain ⟨v, v2, rfl, dv, dv2⟩ := dns2 d
    split at hm
    · rename_i a ha
      split at hm
      · rename_i hl
        split at hm
        · rename_i rr hk
          cases hm
          exact call_isi pins s σ H _ us Q I rv ⟨v, v2, _, _, _, rfl, by rw [show v2 = .ty b from dv2]; exact .ty b, tyN_at r dv ha hl, kit_ty hk, hq.self r rfl⟩
        · cases hm
      · cases hm
    · cases hm
  · rename_i wv ts
    obtain ⟨v, v2, rfl, dv, dv2⟩ := dns2 d
    split at hm
    · rename_i a ha
      split at hm
      · rename_i hl
        split at hm
        · rename_i rr hk
          cases hm
          obtain ⟨tp, cs, rfl, hT, dc⟩ := dv2
          have hcs := kitAnyB_cls hk dc (allTy_of hl.2)
          rcases hT with hT | (hT | ⟨o, hT⟩) | ⟨⟨oc, od, odt, osl⟩, its, n, hT, hc, hdt, hz, rvs⟩
          · exact call_isiT pins s σ H _ us Q I rv ⟨v, tp, cs, _, _, _, rfl, hT, hcs, tyN_at r dv ha hl.1, kitAnyB_at hk rfl, hq.self r rfl⟩
          · cases hT
          · cases hT
          · have e := ClsV.all hcs rvs
            simp only at hc hdt
            subst hc hdt
            refine call_isiK pins s σ H _ us Q I rv ⟨v, tp, od, its.toList, n, osl, _, _, rfl, hT, tyN_at r dv ha hl.1, ?_, hq.self r rfl⟩
            rw [e]
            exact kitAnyB_at hk rfl
        · cases hm
      · cases hm
    · cases hm
  · cases hm
end
end DD
namespace DD
open PySem PySem.Spec PyProof.Rows L2
variable [IW : HasW]

/-! ## repr -/
mutual
theorem py_noDict : ∀ w : Dv, (py w).hasDict = false
  | .non => by simp [py, PyData.hasDict]
  | .bl _ => by simp [py, PyData.hasDict]
  | .int _ => by simp [py, PyData.hasDict]
  | .str _ => by simp [py, PyData.hasDict]
  | .tup ws => by simp [py, PyData.hasDict, pys_noDict ws]
  | .lst ws => by simp [py, PyData.hasDict, pys_noDict ws]
  | .kls ws => by simp [py, PyData.hasDict, pys_noDict ws]
  | .ref _ => by simp [py, PyData.hasDict]
  | .ty _ => by simp [py, PyData.hasDict]
  | .fx _ => by simp [py, PyData.hasDict]
  | .dct _ _ => by simp [py, PyData.hasDict]
  | .dck _ _ => by simp [py, PyData.hasDict]
  | .ob _ _ _ => by simp [py, PyData.hasDict]
  | .sti _ => by simp [py, PyData.hasDict]
  | .cl _ => by simp [py, PyData.hasDict]
  | .stt _ => by simp [py, PyData.hasDict]
theorem pys_noDict : ∀ ws : List Dv, PyData.hasDictAll (pys ws) = false
  | [] => by simp [pys, PyData.hasDictAll]
  | w :: ws => by simp [pys, PyData.hasDictAll, py_noDict w, pys_noDict ws]
end
def reprD (ws : List Dv) : M Dv := fun S => match ws with
  | [w] => match res S w with
    | some p => if (py p).showable = true ∧ (py p).shown.length ≤ sizeLine ∧ (py p).depth ≤ 60 then some (.str (py p).shown, S) else none
    | none => none
  | _ => none
section
variable {X : Cx}
theorem cd_repr (hg : X.A.guards = some []) (hu : X.A.units + 64 < cLine) : CD X (.builtin "repr") reprD := by
  rintro pins s σ H xs us Q I rv ⟨hd, S, io, ws, w, S', r, d, hm, hq⟩
  unfold reprD at hm
  split at hm
  · rename_i wv
    obtain ⟨v, rfl, dv⟩ := dns1 d
    split at hm
    · rename_i pp hp
      obtain ⟨⟨h1, h2, h3⟩, e⟩ := if_some hm
      cases e
      have dp := res_dp r dv hp
      have nd := py_noDict pp
      generalize hpy : py pp = pd at dp h1 h2 h3 hq nd
      obtain ⟨u, rfl, ru⟩ := vals1 rv
      have fin : Q (.str pd.shown) H := hq.self r rfl
      cases dp with
      | non => cases ru; exact PySem.P.repr_of_none ⟨.str _, H, I.tok _, ⟨_, rfl⟩, fin⟩
      | bl b => cases ru; exact PySem.P.repr_of_bool ⟨.str _, H, I.tok _, ⟨_, rfl⟩, fin⟩
      | int i =>
        obtain ⟨t, rfl⟩ := ru
        exact PySem.P.repr_of_int (by simpa [PyData.showable] using h1) ⟨.str _, H, I.tok _, ⟨_, rfl⟩, fin⟩
      | str x =>
        obtain ⟨t, rfl⟩ := ru
        exact PySem.P.repr_of_str ⟨.str _, H, I.tok _, ⟨_, rfl⟩, fin⟩ h2
      | lst hs ha =>
        cases ru
        obtain ⟨as, rd⟩ := Dp.reads I _ _ _ (Dp.lst hs ha) (rfl : RelV (.ref _) (.ref _))
        exact repr_of_reads' rd h1 (fun z => by rw [nd] at z; cases z) hg (by omega) (fun _ _ z => z) (fun h' u tk k => ⟨.str _, H, I.kept (t' := tk) k, ⟨_, rfl⟩, fin⟩) h2
      | tup hs ha =>
        cases ru
        obtain ⟨as, rd⟩ := Dp.reads I _ _ _ (Dp.tup hs ha) (rfl : RelV (.ref _) (.ref _))
        exact repr_of_reads' rd h1 (fun z => by rw [nd] at z; cases z) hg (by omega) (fun _ _ z => z) (fun h' u tk k => ⟨.str _, H, I.kept (t' := tk) k, ⟨_, rfl⟩, fin⟩) h2
    · cases hm
  · cases hm
end

/-! ## methods of live lists -/
def appD (o : Dv) (ws : List Dv) : M Dv := fun S => match o, ws with
  | .ref n, [w] => match stL S n with
    | some us => if us.length < sizeLine then some (.non, S.set n (.lst (us ++ [w]))) else none
    | none => none
  | _, _ => none
def extD (o : Dv) (ws : List Dv) : M Dv := fun S => match o, ws with
  | .ref n, [w] => match stL S n, lsV S w with
    | some us, some vs => if us.length + vs.length ≤ sizeLine then some (.non, S.set n (.lst (us ++ vs))) else none
    | _, _ => none
  | _, _ => none
section
variable {X : Cx} {o e : Expr} {pos apos cpos : Pos}
def rDM (K : PySem.W.Frag) (g : Dv → List Dv → M Dv) : V → List V → Hp → VK → Prop := fun x vs H Q => ∃ hd S io wx ws w S', Rst ⟨K, hd⟩ H io S ∧ Dn ⟨K, hd⟩ H io S wx x ∧ Dns ⟨K, hd⟩ H io S ws vs ∧ g wx ws S = some (w, S') ∧ Post ⟨K, hd⟩ H io S w S' Q
theorem mt_app : MtR X "list.append" (rDM X.K appD) := by
  rintro pins s σ H x xs v us Q I rx rv ⟨hd, S, io, wx, ws, w, S', r, dx, d, hm, hq⟩
  unfold appD at hm
  split at hm
  · rename_i n wv
    obtain ⟨v1, rfl, dv⟩ := dns1 d
    split at hm
    · rename_i ls hs
      obtain ⟨hz, e⟩ := if_some hm
      cases e
      obtain ⟨a, rfl, ha⟩ := dx
      obtain ⟨b, ys, hb, hH, hzz, dy⟩ := r.obj n ls (stL_some hs)
      rw [ha] at hb; cases hb
      have hl : ys.length < sizeLine := by rw [dy.length]; exact hz
      refine mt_append pins s σ H _ _ v us Q I rx rv ⟨a, ys, v1, rfl, rfl, hH, hl, ?_⟩
      exact hq _ _ io (Kp.put r (stL_some hs) ha) (r.put (stL_some hs) ha (dy.append ⟨v1, [], rfl, dv, rfl⟩) (by rw [List.length_append]; exact hl)) rfl
    · cases hm
  · cases hm
theorem mt_ext : MtR X "list.extend" (rDM X.K extD) := by
  rintro pins s σ H x xs v us Q I rx rv ⟨hd, S, io, wx, ws, w, S', r, dx, d, hm, hq⟩
  unfold extD at hm
  split at hm
  · rename_i n wv
    obtain ⟨v1, rfl, dv⟩ := dns1 d
    split at hm
    · rename_i ls vs2 hs hs2
      obtain ⟨hz, e⟩ := if_some hm
      cases e
      obtain ⟨a, rfl, ha⟩ := dx
      obtain ⟨b, ys, hb, hH, hzz, dy⟩ := r.obj n ls (stL_some hs)
      rw [ha] at hb; cases hb
      obtain ⟨a2, zs, rfl, hH2, _, dz⟩ := lsV_at r dv hs2
      have hl : ys.length + zs.length ≤ sizeLine := by rw [dy.length, dz.length]; exact hz
      refine mt_extend pins s σ H _ _ v us Q I rx rv ⟨a, a2, ys, zs, rfl, rfl, hH, hH2, hl, ?_⟩
      exact hq _ _ io (Kp.put r (stL_some hs) ha) (r.put (stL_some hs) ha (dy.append dz) (by rw [List.length_append]; exact hl)) rfl
    · cases hm
  · cases hm
def chkL (w : Dv) : M Unit := fun S => match lsV S w with
  | some _ => some ((), S)
  | none => none
def bmD (g : Dv → List Dv → M Dv) (m : M Dv) (n : M (List Dv)) : M Dv := M.bind m fun w => M.bind (chkL w) fun _ => M.bind n fun ws => g w ws
theorem ed_bm {name : Str} {id : String} {g : Dv → List Dv → M Dv} {es : List Expr} {m : En → M Dv} {n : En → M (List Dv)} (slot : Slot "list" name id) (hty : typeOf (.builtin id) = pure (.type "method_descriptor")) (hm : MtR X id (rDM X.K g)) (ho : ED X o m) (ha : AD X (e :: es) n)
    (hbase : attributeBase o name X.env (eval o X.env) = eval o X.env := by rfl)
    (hfew : ((backTo cpos (starEach (e :: es) X.env)).all (fun x => !x.1) && (backToKw cpos (keywordEach [] X.env)).all (fun x => x.1.isSome)
      && decide ((e :: es).length + ([] : List Keyword).length + (if ([] : List Keyword).isEmpty then 0 else 1) < 30)) = true := by rfl)
    (hline : (apos.endLine == cpos.line) = true := by rfl) (hs : starEach (e :: es) X.env = (false, eval e X.env) :: starEach es X.env := by rfl) (hplain : (backTo cpos (starEach es X.env)).any (·.1) = false := by rfl) :
    ED X (.Call (.Attribute o name apos) (e :: es) [] cpos) (fun env => bmD g (m env) (n env)) := ed_of (pe_bm PySem.F.plainAttrs_list slot hty hm ho ha hbase hfew hline hs hplain) (by
  rintro σ H Q ⟨hd, env, S, io, w, S', r, en, hrun, hq⟩
  obtain ⟨x, S1, h1, hrun⟩ := M.bind_some hrun
  obtain ⟨_, S1', h1', hrun⟩ := M.bind_some hrun
  obtain ⟨ws, S2, h2, hrun2⟩ := M.bind_some hrun
  refine ⟨hd, env, S, io, x, S1, r, en, h1, fun v H1 io1 k1 r1 d1 => ?_⟩
  unfold chkL at h1'
  split at h1'
  case h_2 => cases h1'
  rename_i ls hx
  cases h1'
  constructor
  · obtain ⟨a, ys, rfl, hH, _, _⟩ := lsV_at r1 d1 hx
    exact .inl ⟨rfl, ys, .of hH⟩
  · refine ⟨hd, env, S1, io1, ws, S2, r1, en.mono k1, h2, fun vs H2 io2 k2 r2 d2 => ?_⟩
    exact ⟨hd, S2, io2, x, ws, w, S', r2, Dn.mono k2 _ _ d1, d2, hrun2, hq.after (k1.trans k2)⟩)
end

/-! ## the end of a law -/
theorem law_endG {P : Program} {w : World} {K : PySem.W.Frag} {mg mb : Str → Option Value} {k : Nat} {fa a : Addr} {fd : FuncData} {x : Str} {sp : Sp} {s1 : Shared} {vs : List Value} {ns : List Int}
    (inK : K.In s1.heap) (names : s1.heap.Ns mainGlobals mg) (blt : s1.heap.Ns builtinsNs mb) (bltIs : ∀ x : Str, x ≠ "__name__" → mb x = bootBuiltins x) (noLim : s1.heap.NoLimit) (noGen : s1.gens = #[])
    (scr : s1.heap.get? a = some { cls := .type "list", data := .seq vs.toArray }) (cells : IntsAre vs ns) (few : ns.length ≤ sizeLine) (room : Room k callerA)
    (F : ∀ base : Heap, K.In base → base.Ns mainGlobals mg → FnG P w K mg base k fa fd [x] sp) (bind : ∀ (s : Shared) (u : Value), BindsTo s fd ⟨[u], []⟩ [(x, u)])
    (asks : ∀ H : Hp, Only H → SqL K H a (ns.map V.int) → sp [.ref a] H (fun v _ => v = .bl true) fun _ _ _ => False) :
    codeAny (model P w) callerA (.call (.ref fa) ⟨[.ref a], []⟩) (fun r s' => r = .ok (.ret (.bool true)) ∧ OldK s1.heap s'.heap ∧ s'.os = s1.os ∧ AllBare s'.gens) s1 := by
  have rel := vals_ints cells
  have size : vs.length = ns.length := cells.length
  let ob : Obj := { cls := .type "list", data := .seq vs.toArray }
  -- the script is locked where it is no object of the module
  let H : Hp := fun b => if b = a ∧ (K.lookup a).isNone = true then some (.frz ob (.lst (ns.map V.int))) else none
  have atH : ∀ {b : Addr} {u : HO}, H b = some u → b = a ∧ (K.lookup a).isNone = true ∧ u = .frz ob (.lst (ns.map V.int)) := by
    intro b u e
    by_cases c : b = a ∧ (K.lookup a).isNone = true
    · have e2 : H b = some (.frz ob (.lst (ns.map V.int))) := if_pos c
      rw [e] at e2
      exact ⟨c.1, c.2, Option.some.inj e2⟩
    · have e2 : H b = none := if_neg c
      rw [e] at e2
      cases e2
  have only : Only H := fun b => by
    cases e : H b with
    | none => exact .inl rfl
    | some u => exact .inr ⟨_, _, by rw [(atH e).2.2]⟩
  have sq : SqL K H a (ns.map V.int) := by
    cases e : K.lookup a with
    | none => exact .inl (.inr ⟨ob, if_pos ⟨rfl, by rw [e]; rfl⟩⟩)
    | some o =>
      have e2 := inK a o e
      rw [scr] at e2
      cases e2
      exact .inr ⟨_, vs.toArray, _, e, rfl, rfl, rfl, by rw [List.size_toArray, size]; exact few, by simpa using rel⟩
  have ok : HOk P w H s1.heap := fun b u e => by
    obtain ⟨rfl, _, rfl⟩ := atH e
    exact ⟨scr, by rw [List.length_map]; exact few, vs, _, rel, scr⟩
  have keepB : ∀ {b : Addr} {o : Obj}, s1.heap.get? b = some o → H b = none → (hidT s1.heap H).get? b = some o := fun e n => hidT_get e n
  have offDict : ∀ {b : Addr} {o : Obj} {es : Array DictEntry} {ep : Nat}, s1.heap.get? b = some o → o.data = .dict es ep → H b = none := by
    intro b o es ep e d
    cases q : H b with
    | none => rfl
    | some u =>
      have := (atH q).1
      subst this
      rw [scr] at e
      cases e
      exact nomatch (show Data.seq vs.toArray _ = Data.dict es ep from d)
  have nsB : ∀ {b : Addr} {m : Str → Option Value}, s1.heap.Ns b m → (hidT s1.heap H).Ns b m := by
    rintro b m ⟨o, es, ep, e, d, z⟩
    exact ⟨o, es, ep, keepB e (offDict e d), d, z⟩
  have inB : K.In (hidT s1.heap H) := fun b o e => by
    refine keepB (inK b o e) ?_
    cases q : H b with
    | none => rfl
    | some u =>
      obtain ⟨z, z2, _⟩ := atH q
      subst z
      rw [e] at z2
      cases z2
  have mods : Mod K mg (hidT s1.heap H) := ⟨inB, nsB names, ⟨mb, nsB blt, bltIs⟩, noLim.imp fun mc z => ⟨nsB z.1, z.2⟩⟩
  have start0 : Env0 P w K mg (hidT s1.heap H) callerA [] s1 H := {
    frames := rfl
    mod := mods
    bs := fun b o e => of_hidT e
    bsz := Nat.le_of_eq (hidT_size _ _)
    funs := trivial
    frf := fun b z => nomatch z
    hok := ok
    bare := .of_eq noGen }
  have run := (F _ inB (nsB names)).run callerA [] s1 H ⟨[.ref a], []⟩ [.ref a] [.ref a] _ _ room rfl start0 (bind s1 (.ref a)) (.cons rfl .nil) (asks H only sq)
  refine codeAny_mono run ?_
  intro res s' out
  match res, out with
  | .error _, out => exact out.elim
  | .ok .next, out => exact out.elim
  | .ok .brk, out => exact out.elim
  | .ok .cont, out => exact out.elim
  | .ok (.ret u), ⟨v, H', os, bare, un, ok', rv, q⟩ =>
    have q : v = .bl true := q
    subst q
    have rv : u = Value.bool true := rv
    subst rv
    refine ⟨rfl, OldK.of_keep fun b o e => ?_, os, bare⟩
    cases z : H b with
    | none => exact un.keep b o e z (fun y => nomatch y) (fun y => nomatch y)
    | some c =>
      obtain ⟨rfl, _, rfl⟩ := atH z
      have z2 := un.frzs b ob _ z
      have e1 := (ok' b _ z2).1
      rw [scr] at e
      rw [e1]
      exact e
theorem walk_ofG {l : PySem.W.OpenLaw} {n k : Nat} {q : Program} {loose : List Str} {XP : (Str → Option Value) → Heap → Prop} {YP : World → Heap → Prop} {d : DefRec} {K : Params → PySem.W.Frag} {g : List Dv → M Dv} {x : Str}
    (hn : l.most = some n) (hn2 : n ≤ sizeLine) (hdf : d.params.defaults = []) (hr : Room k callerA)
    (hY : ∀ (w : World) (h : Heap), YP w h → (K w.params).In h)
    (F : ∀ (w : World) (mg : Str → Option Value) (fa : Addr) (h : Heap), (K w.params).In h → h.Ns mainGlobals mg → mg d.name = some (.ref fa) →
      ∃ fd : FuncData, (∀ (s : Shared) (u : Value), BindsTo s fd ⟨[u], []⟩ [(x, u)]) ∧
        ∀ base : Heap, (K w.params).In base → base.Ns mainGlobals mg → FnG l.prog w (K w.params) mg base k fa fd [x] (spD (K w.params) 1 g))
    (hlaw : ∀ ns : List Int, ns.length ≤ n → ∃ S', g [.kls (ns.map .int)] [] = some (.bl true, S')) :
    PySem.W.WalkO q loose XP YP l.row.toRowW d [] (fun f vs => PySem.call f vs) := by
  refine Att.attach_call hn hdf fun w s0 s1 mg mb fa o pm cd doc a vs ns G Y ho hd hcd hmg hobj hints hlen hg => ?_
  have inK := hY w _ Y
  obtain ⟨fd, hb, hF⟩ := F w mg fa _ inK G.T.g hmg
  refine law_endG inK G.T.g G.T.b G.T.builtins G.T.nolimit hg hobj hints (Nat.le_trans hlen hn2) hr hF hb fun H hO hS => ?_
  obtain ⟨S', hg'⟩ := hlaw ns hlen
  have noL : ∀ ys, H a ≠ some (.lst ys) := fun ys e => by
    rcases hO a with z | ⟨o, xs, z⟩
    · rw [e] at z; cases z
    · rw [e] at z; cases z
  have dints : ∀ ns : List Int, Dns ⟨K w.params, []⟩ H [] [] (ns.map .int) (ns.map V.int) := fun ns => by
    induction ns with
    | nil => rfl
    | cons i ns ih => exact ⟨_, _, rfl, rfl, ih⟩
  refine ⟨[], [], [], [.kls (ns.map .int)], _, S', ⟨rfl, .nil, fun b z => (nomatch z), fun b z => (nomatch z), fun n ws z => by simp at z⟩, ⟨_, _, rfl, ⟨a, _, rfl, Fx.of hS noL, dints ns⟩, rfl⟩, rfl, hg', fun v H' io' k r d => d⟩
end DD
namespace DD
open PySem PySem.Spec PyProof.Rows L2
variable [IW : HasW]
/-! ## sorted, over data of any depth -/
def SortOk (us : List Dv) : Prop := Dv.pus us = true ∧ PySem.W.AllAlike (us.map py) ∧ PySem.W.Sortable (us.map py) ∧ ∀ u ∈ us, (py u).depth ≤ 60
noncomputable instance (us : List Dv) : Decidable (SortOk us) := Classical.propDecidable _
noncomputable def sortL (us : List Dv) : List Dv := us.mergeSort (PySem.W.dataLe false py)
noncomputable def sortedD (ws : List Dv) : M Dv := match ws with
  | [w] => fun S => match lsV S w with
    | some us => if us.length ≤ sizeLine ∧ SortOk us then some (.lst (sortL us), S) else none
    | none => none
  | _ => M.no
/-- .. and the new list is live -/
noncomputable def sortedDL (ws : List Dv) : M Dv := match ws with
  | [w] => fun S => match lsV S w with
    | some us => if us.length ≤ sizeLine ∧ SortOk us then some (.ref S.length, S ++ [.lst (sortL us)]) else none
    | none => none
  | _ => M.no
section
variable {X : Cx}
theorem pus_mem : ∀ {us : List Dv} {u : Dv}, Dv.pus us = true → u ∈ us → u.pu = true
  | [], _, _, h => nomatch h
  | w :: us, u, h, hm => by
    have h' : w.pu = true ∧ Dv.pus us = true := by simpa [Dv.pus] using h
    rcases List.mem_cons.mp hm with rfl | hm
    · exact h'.1
    · exact pus_mem h'.2 hm
theorem each_dns {c : Cf} {H : Hp} {io : List Addr} {S : Sto} : ∀ {us : List Dv} {xs : List V} {its : List Value}, Dns c H io S us xs → Vals xs its → PySem.W.EachIs (fun v u => ∃ x, RelV x v ∧ Dn c H io S u x) its us
  | [], xs, its, d, rv => by
    have e : xs = [] := d
    subst e
    cases rv
    exact .nil
  | u :: us, xs, its, d, rv => by
    obtain ⟨x, xr, rfl, h1, h2⟩ := d
    cases rv with
    | cons r1 r2 => exact .cons ⟨x, r1, h1⟩ (each_dns h2 r2)
theorem dns_each {c : Cf} {H : Hp} {io : List Addr} {S : Sto} : ∀ {us : List Dv} {its : List Value}, PySem.W.EachIs (fun v u => ∃ x, RelV x v ∧ Dn c H io S u x) its us → ∃ xs, Dns c H io S us xs ∧ Vals xs its
  | [], _, .nil => ⟨[], rfl, .nil⟩
  | u :: us, _, .cons ⟨x, r1, h1⟩ t => by
    obtain ⟨xs, d, rv⟩ := dns_each t
    exact ⟨x :: xs, ⟨x, xs, rfl, h1, d⟩, .cons r1 rv⟩
theorem each_reads {pins : List (Addr × Obj)} {σ : L2.St} {H : Hp} {s : Shared} (I : L2.Inv X pins σ H s) {hd : List Addr} {io : List Addr} {S : Sto} : ∀ {us : List Dv} {its : List Value}, Dv.pus us = true → PySem.W.EachIs (fun v u => ∃ x, RelV x v ∧ Dn ⟨X.K, hd⟩ H io S u x) its us →
      PySem.W.EachIs (fun v u => ∃ as, Reads s.heap v (py u) as) its us
  | [], _, _, .nil => .nil
  | u :: us, _, hp, .cons ⟨x, r1, h1⟩ t => by
    have h' : u.pu = true ∧ Dv.pus us = true := by simpa [Dv.pus] using hp
    exact .cons (Dp.reads I _ _ _ (dn_dp u x h'.1 h1) r1) (each_reads I h'.2 t)
theorem run_sorted {pins : List (Addr × Obj)} {s : Shared} {σ : L2.St} {H : Hp} {us : List Value} {Q : VK} {hd : List Addr} {io : List Addr} {S : Sto} {a : Addr} {ys : List V} {ls : List Dv} (hu : X.A.units + 64 < cLine) (I : L2.Inv X pins σ H s) (rv : Vals [V.ref a] us)
    (hx : SqL X.K H a ys) (dx : Dns ⟨X.K, hd⟩ H io S ls ys) (hz : ls.length ≤ sizeLine) (ok : SortOk ls)
    (q : ∀ p zs, H p = none → Dns ⟨X.K, hd⟩ H io S (sortL ls) zs → Q (.ref p) (upd H p (.lst zs))) : wpAny (model X.prog X.w) X.A (call (.builtin "sorted") us) (EP X pins σ Q) X.xe s := by
  obtain ⟨u, rfl, ru⟩ := vals1 rv
  have ru : u = Value.ref a := ru
  subst ru
  obtain ⟨its, rvs, hl, _⟩ := I.list hx
  have e := each_dns dx rvs
  refine PySem.W.sorted_data (enc := py) hl.isList e (each_reads I ok.1 e) ok.2.1 ok.2.2.1 hz (fun b hb => ?_) fun out hlen eo => ?_
  · have := ok.2.2.2 b hb
    omega
  · obtain ⟨zs, d, rz⟩ := dns_each eo
    obtain ⟨n, hn⟩ := sortedAll_at s.heap its (List.toArray out)
    have hf : H (s.heap.objs.size + 1) = none := I.hok.fresh (Nat.le_succ _)
    refine ⟨.ref (s.heap.objs.size + 1), upd H (s.heap.objs.size + 1) (.lst zs), I.laid (t' := s.toks) (fun b o e => sortedAll_old e) (Nat.le_succ _) ⟨?_, out, n, rz, hn⟩, rfl, q _ zs hf d⟩
    rw [rz.length, hlen]; exact hz
theorem sort_len (us : List Dv) : (sortL us).length = us.length := List.length_mergeSort us
theorem cd_sorted (hu : X.A.units + 64 < cLine) : CD X (.builtin "sorted") sortedD := by
  rintro pins s σ H xs us Q I rv ⟨hd, S, io, ws, w, S', r, d, hm, hq⟩
  unfold sortedD at hm
  split at hm
  · obtain ⟨v, rfl, dv⟩ := dns1 d
    split at hm
    · rename_i ls hs
      obtain ⟨⟨hz, ok⟩, e⟩ := if_some hm
      cases e
      obtain ⟨a, ys, rfl, hx, _, dx⟩ := lsV_at r dv hs
      refine run_sorted hu I rv (.of hx) dx hz ok fun p zs hp dz => ?_
      exact hq _ _ io (Kp.fresh hp) (r.fresh hp) (new_lst r hp (by rw [dz.length, sort_len]; exact hz) dz)
    · cases hm
  · cases hm
theorem cd_sortedL (hu : X.A.units + 64 < cLine) : CD X (.builtin "sorted") sortedDL := by
  rintro pins s σ H xs us Q I rv ⟨hd, S, io, ws, w, S', r, d, hm, hq⟩
  unfold sortedDL at hm
  split at hm
  · obtain ⟨v, rfl, dv⟩ := dns1 d
    split at hm
    · rename_i ls hs
      obtain ⟨⟨hz, ok⟩, e⟩ := if_some hm
      cases e
      obtain ⟨a, ys, rfl, hx, _, dx⟩ := lsV_at r dv hs
      refine run_sorted hu I rv (.of hx) dx hz ok fun p zs hp dz => ?_
      have hz' : zs.length ≤ sizeLine := by rw [dz.length, sort_len]; exact hz
      exact hq _ _ _ (Kp.alloc r hp) (r.alloc hp dz hz') ⟨p, rfl, by rw [← r.len]; simp⟩
    · cases hm
  · cases hm
end
end DD
namespace DD
open PySem PySem.Spec PyProof.Rows L2
variable [IW : HasW]
/-! ## reckoning with mirrors -/
@[simp] theorem M.bind_ret {α β : Type} (a : α) (f : α → M β) : M.bind (M.ret a) f = f a := Eq.trans rfl rfl
@[simp] theorem M.bind_no {α β : Type} (f : α → M β) : M.bind M.no f = M.no := Eq.trans rfl rfl
@[simp] theorem M.bind_assoc {α β γ : Type} (m : M α) (f : α → M β) (g : β → M γ) : M.bind (M.bind m f) g = M.bind m fun x => M.bind (f x) g := by
  funext S
  unfold M.bind
  cases m S with
  | none => rfl
  | some r => rfl
@[simp] theorem M.bind_ite {α β : Type} (c : Prop) [Decidable c] (a b : M α) (f : α → M β) : M.bind (if c then a else b) f = if c then M.bind a f else M.bind b f := by
  split <;> rfl
@[simp] theorem rdE_zero (w : Dv) (r : En) : rdE 0 (some w :: r) = M.ret w := Eq.trans rfl rfl
@[simp] theorem rdE_succ (n : Nat) (x : Option Dv) (r : En) : rdE (n + 1) (x :: r) = rdE n r := by
  funext S
  unfold rdE
  simp
/-- an answer that may be none -/
def optM {α : Type} (o : Option α) : M α := fun S => match o with
  | some a => some (a, S)
  | none => none
@[simp] theorem optM_some {α : Type} (a : α) : optM (some a) = M.ret a := Eq.trans rfl rfl
@[simp] theorem consA_ret (a : Dv) (ws : List Dv) : consA (M.ret a) (M.ret ws) = M.ret (a :: ws) := Eq.trans rfl rfl
theorem consA_def (m : M Dv) (n : M (List Dv)) : consA m n = M.bind m fun w => M.bind n fun ws => M.ret (w :: ws) := rfl
@[simp] theorem callD_ret (n : Nat) (g : List Dv → M Dv) (ws : List Dv) : callD n g (M.ret ws) = if ws.length = n then g ws else M.no := Eq.trans rfl rfl
@[simp] theorem callK_ret (np nk : Nat) (ix : List Nat) (n : Nat) (g : List Dv → M Dv) (us zs : List Dv) : callK np nk ix n g (M.ret us) (M.ret zs) = if us.length = np ∧ zs.length = nk ∧ (pick ix (us ++ zs)).length = n then g (pick ix (us ++ zs)) else M.no := Eq.trans rfl rfl
theorem line_ge {n : Nat} (h : n ≤ 1000000) : n ≤ sizeLine := by rw [sizeLine_eq]; omega
theorem tupD_ret (ws : List Dv) (h : ws.length ≤ 1000000) : tupD (M.ret ws) = M.ret (.tup ws) := by
  funext S
  show (if ws.length ≤ sizeLine then some (Dv.tup ws, S) else none) = _
  rw [if_pos (line_ge h)]
  rfl
theorem lstD_ret (ws : List Dv) (h : ws.length ≤ 1000000) : lstD (M.ret ws) = M.ret (.lst ws) := by
  funext S
  show (if ws.length ≤ sizeLine then some (Dv.lst ws, S) else none) = _
  rw [if_pos (line_ge h)]
  rfl
@[simp] theorem tupD_nil : tupD (M.ret []) = M.ret (.tup []) := tupD_ret [] (by simp)
@[simp] theorem tupD_1 (a : Dv) : tupD (M.ret [a]) = M.ret (.tup [a]) := tupD_ret _ (by simp)
@[simp] theorem tupD_2 (a b : Dv) : tupD (M.ret [a, b]) = M.ret (.tup [a, b]) := tupD_ret _ (by simp)
@[simp] theorem tupD_3 (a b c : Dv) : tupD (M.ret [a, b, c]) = M.ret (.tup [a, b, c]) := tupD_ret _ (by simp)
@[simp] theorem tupD_4 (a b c d : Dv) : tupD (M.ret [a, b, c, d]) = M.ret (.tup [a, b, c, d]) := tupD_ret _ (by simp)
@[simp] theorem lstD_nil : lstD (M.ret []) = M.ret (.lst []) := lstD_ret [] (by simp)
@[simp] theorem lstD_1 (a : Dv) : lstD (M.ret [a]) = M.ret (.lst [a]) := lstD_ret _ (by simp)
@[simp] theorem lstD_2 (a b : Dv) : lstD (M.ret [a, b]) = M.ret (.lst [a, b]) := lstD_ret _ (by simp)
@[simp] theorem lstD_3 (a b c : Dv) : lstD (M.ret [a, b, c]) = M.ret (.lst [a, b, c]) := lstD_ret _ (by simp)
@[simp] theorem lstD_4 (a b c d : Dv) : lstD (M.ret [a, b, c, d]) = M.ret (.lst [a, b, c, d]) := lstD_ret _ (by simp)
@[simp] theorem lstD_7 (a b c d e f g : Dv) : lstD (M.ret [a, b, c, d, e, f, g]) = M.ret (.lst [a, b, c, d, e, f, g]) := lstD_ret _ (by simp)
/-! operators -/
@[simp] theorem addD_int (i j : Int) : addD (.int i) (.int j) = M.ret (.int (i + j)) := Eq.trans rfl rfl
@[simp] theorem subD_int (i j : Int) : subD (.int i) (.int j) = M.ret (.int (i - j)) := Eq.trans rfl rfl
theorem addD_tup (xs ys : List Dv) (h : xs.length + ys.length ≤ 1000000) : addD (.tup xs) (.tup ys) = M.ret (.tup (xs ++ ys)) := by
  funext S
  show (if xs.length + ys.length ≤ sizeLine then some (Dv.tup (xs ++ ys), S) else none) = _
  rw [if_pos (line_ge h)]
  rfl
theorem addD_lst (xs ys : List Dv) (h : xs.length + ys.length ≤ 1000000) : addD (.lst xs) (.lst ys) = M.ret (.lst (xs ++ ys)) := by
  funext S
  show (if xs.length + ys.length ≤ sizeLine then some (Dv.lst (xs ++ ys), S) else none) = _
  rw [if_pos (line_ge h)]
  rfl
theorem mulD_int (i j : Int) (h : i.natAbs.log2 + j.natAbs.log2 < 1000000) : mulD (.int i) (.int j) = M.ret (.int (i * j)) := by
  funext S
  show (if CMulW i j then some (Dv.int (i * j), S) else none) = _
  rw [if_pos (show CMulW i j from h)]
  rfl
theorem log2_le_self (n : Nat) : n.log2 ≤ n := by
  by_cases h : n = 0
  · rw [h]; simp
  · exact Nat.le_of_lt (Nat.lt_of_lt_of_le Nat.lt_two_pow_self (Nat.log2_self_le h))
theorem log2_64 {i : Int} (h : i.natAbs < 2 ^ 64) : i.natAbs.log2 < 64 := PySem.Flt.log2_lt_of (by decide) h
theorem mulD_small (i j : Int) (h : i.natAbs < 2 ^ 64) (h2 : j.natAbs < 2 ^ 64) : mulD (.int i) (.int j) = M.ret (.int (i * j)) :=
  mulD_int i j (by have := log2_64 h; have := log2_64 h2; omega)
theorem mulD_tup (xs : List Dv) (k : Int) (h0 : 0 ≤ k) (h1 : k ≤ 1000) (h2 : xs.length ≤ 1000) : mulD (.tup xs) (.int k) = M.ret (.tup (List.replicate k.toNat xs).flatten) := by
  funext S
  show (if -(2 ^ 63) ≤ k ∧ k < 2 ^ 63 ∧ (xs.length = 0 ∨ k ≤ 1 ∨ (k ≤ 1000 ∧ xs.length ≤ 1000)) then some (Dv.tup (List.replicate k.toNat xs).flatten, S) else none) = _
  rw [if_pos ⟨by omega, by omega, .inr (.inr ⟨h1, h2⟩)⟩]
  rfl
theorem mulD_lst (xs : List Dv) (k : Int) (h0 : 0 ≤ k) (h1 : k ≤ 1000) (h2 : xs.length ≤ 1000) : mulD (.lst xs) (.int k) = M.ret (.lst (List.replicate k.toNat xs).flatten) := by
  funext S
  show (if -(2 ^ 63) ≤ k ∧ k < 2 ^ 63 ∧ xs.length * k.toNat ≤ sizeLine then some (Dv.lst (List.replicate k.toNat xs).flatten, S) else none) = _
  rw [if_pos ⟨by omega, by omega, line_ge (Nat.le_trans (Nat.mul_le_mul h2 (show k.toNat ≤ 1000 by omega)) (by decide))⟩]
  rfl
theorem modD_int (i j : Int) (h : 0 < j) : modD (.int i) (.int j) = M.ret (.int (i % j)) := by
  funext S
  show (if 0 < j then some (Dv.int (i % j), S) else none) = _
  rw [if_pos h]
  rfl
theorem fdivD_int (i j : Int) (h : 0 < j) (h2 : j < 2 ^ 64) : fdivD (.int i) (.int j) = M.ret (.int (i / j)) := by
  funext S
  show (if CDivW i j then some (Dv.int (i / j), S) else none) = _
  rw [if_pos ⟨h, by have := log2_64 (i := j) (by omega); omega⟩]
  rfl
@[simp] theorem powD_1018 : powD (.int 10) (.int 18) = M.ret (.int 1000000000000000000) := by
  funext S
  show (if CPow 10 18 then some (Dv.int (10 ^ (18 : Int).toNat), S) else none) = _
  rw [if_pos (by unfold CPow; decide)]
  rfl
@[simp] theorem powD_1030 : powD (.int 10) (.int 30) = M.ret (.int 1000000000000000000000000000000) := by
  funext S
  show (if CPow 10 30 then some (Dv.int (10 ^ (30 : Int).toNat), S) else none) = _
  rw [if_pos (by unfold CPow; decide)]
  rfl
@[simp] theorem powD_1012 : powD (.int 10) (.int 12) = M.ret (.int 1000000000000) := by
  funext S
  show (if CPow 10 12 then some (Dv.int (10 ^ (12 : Int).toNat), S) else none) = _
  rw [if_pos (by unfold CPow; decide)]
  rfl
@[simp] theorem negD_int (i : Int) : negD (.int i) = M.ret (.int (-i)) := Eq.trans rfl rfl
@[simp] theorem ltD_int (i j : Int) : ltD (.int i) (.int j) = M.ret (.bl (decide (i < j))) := Eq.trans rfl rfl
@[simp] theorem leD_int (i j : Int) : leD (.int i) (.int j) = M.ret (.bl (decide (i ≤ j))) := Eq.trans rfl rfl
@[simp] theorem gtD_int (i j : Int) : gtD (.int i) (.int j) = M.ret (.bl (decide (j < i))) := Eq.trans rfl rfl
@[simp] theorem geD_int (i j : Int) : geD (.int i) (.int j) = M.ret (.bl (decide (j ≤ i))) := Eq.trans rfl rfl
@[simp] theorem asB_bl (b : Bool) : asB (.bl b) = M.ret b := Eq.trans rfl rfl
@[simp] theorem isD_bl (a b : Bool) : isD (.bl a) (.bl b) = M.ret (.bl (decide (a = b))) := Eq.trans rfl rfl
@[simp] theorem isntD_bl (a b : Bool) : isntD (.bl a) (.bl b) = M.ret (.bl (!decide (a = b))) := Eq.trans rfl rfl
theorem isD_non {x : Dv} : isD x .non = M.ret (.bl (isN x)) := by cases x <;> rfl
theorem isntD_non {x : Dv} : isntD x .non = M.ret (.bl (!isN x)) := by cases x <;> rfl
@[simp] theorem andV_ret (b : Bool) (n : M Dv) : andV (M.ret (.bl b)) n = if b = true then n else M.ret (.bl false) := Eq.trans rfl rfl
@[simp] theorem orV_ret (b : Bool) (n : M Dv) : orV (M.ret (.bl b)) n = if b = true then M.ret (.bl true) else n := Eq.trans rfl rfl
@[simp] theorem notV_ret (b : Bool) : notV (M.ret (.bl b)) = M.ret (.bl (!b)) := Eq.trans rfl rfl
@[simp] theorem andT_ret (b : Bool) (n : M Bool) : andT (M.ret b) n = if b = true then n else M.ret false := Eq.trans rfl rfl
@[simp] theorem orT_ret (b : Bool) (n : M Bool) : orT (M.ret b) n = if b = true then M.ret true else n := Eq.trans rfl rfl
@[simp] theorem notT_ret (b : Bool) : notT (M.ret b) = M.ret (!b) := Eq.trans rfl rfl
@[simp] theorem ifE_ret (b : Bool) (m n : M Dv) : ifE (M.ret b) m n = if b = true then m else n := Eq.trans rfl rfl
@[simp] theorem ifS_ret (b : Bool) (m n : M Fl) : ifS (M.ret b) m n = if b = true then m else n := Eq.trans rfl rfl
@[simp] theorem seqD_nx (env : En) (n : En → M Fl) : seqD (M.ret (.nx env)) n = n env := Eq.trans rfl rfl
@[simp] theorem seqD_rt (w : Dv) (n : En → M Fl) : seqD (M.ret (.rt w)) n = M.ret (.rt w) := Eq.trans rfl rfl
@[simp] theorem seqD_bk (e : En) (n : En → M Fl) : seqD (M.ret (.bk e)) n = M.ret (.bk e) := Eq.trans rfl rfl
@[simp] theorem seqD_ct (e : En) (n : En → M Fl) : seqD (M.ret (.ct e)) n = M.ret (.ct e) := Eq.trans rfl rfl
@[simp] theorem seqD_no (n : En → M Fl) : seqD M.no n = M.no := Eq.trans rfl rfl
@[simp] theorem seqD_ite (c : Prop) [Decidable c] (a b : M Fl) (n : En → M Fl) : seqD (if c then a else b) n = if c then seqD a n else seqD b n := by
  split <;> rfl
@[simp] theorem nxD_def (env : En) : nxD env = M.ret (.nx env) := Eq.trans rfl rfl
@[simp] theorem setS_ret (i : Nat) (w : Dv) (env : En) : setS i (M.ret w) env = M.ret (.nx (env.set i (some w))) := Eq.trans rfl rfl
@[simp] theorem setE_def (i : Nat) (w : Dv) (env : En) : setE i w env = M.ret (env.set i (some w)) := Eq.trans rfl rfl
@[simp] theorem parS_ret (i j : Nat) (v w : Dv) (env : En) : parS i j (M.ret [v, w]) env = M.ret (.nx ((env.set i (some v)).set j (some w))) := Eq.trans rfl rfl
@[simp] theorem retS_ret (w : Dv) : retS (M.ret w) = M.ret (.rt w) := Eq.trans rfl rfl
@[simp] theorem exprS_ret (w : Dv) (env : En) : exprS (M.ret w) env = M.ret (.nx env) := Eq.trans rfl rfl
@[simp] theorem asgS_ret (g : Dv → En → M En) (w : Dv) (env : En) : asgS g (M.ret w) env = M.bind (g w env) fun env => M.ret (.nx env) := Eq.trans rfl rfl
@[simp] theorem tupG_tup (n : Nat) (gs : List Dv → En → M En) (ws : List Dv) (env : En) : tupG n gs (.tup ws) env = if ws.length = n then gs ws env else M.no := Eq.trans rfl rfl
@[simp] theorem gsCons_cons (g : Dv → En → M En) (gs : List Dv → En → M En) (w : Dv) (ws : List Dv) (env : En) : gsCons g gs (w :: ws) env = M.bind (g w env) fun env => gs ws env := Eq.trans rfl rfl
@[simp] theorem gsNil_nil (env : En) : gsNil [] env = M.ret env := Eq.trans rfl rfl
theorem ite_ret {α : Type} (c : Prop) [Decidable c] (a b : α) : (if c then M.ret a else M.ret b) = M.ret (if c then a else b) := by
  split <;> rfl
@[simp] theorem chD_int (g g' : Dv → Dv → M Dv) (x y : Dv) (l : M Dv) : chD g g' (M.ret x) (M.ret y) l = M.bind (M.bind (g x y) asB) fun b => if b = true then M.bind l fun z => g' y z else M.ret (.bl false) := Eq.trans rfl rfl
/-! built-ins -/
@[simp] theorem lenD_tup (ws : List Dv) : lenD [.tup ws] = M.ret (.int ws.length) := Eq.trans rfl rfl
@[simp] theorem lenD_lst (ws : List Dv) : lenD [.lst ws] = M.ret (.int ws.length) := Eq.trans rfl rfl
@[simp] theorem lenD_kls (ws : List Dv) : lenD [.kls ws] = M.ret (.int ws.length) := Eq.trans rfl rfl
@[simp] theorem tupleD_tup (ws : List Dv) : tupleD [.tup ws] = M.ret (.tup ws) := Eq.trans rfl rfl
@[simp] theorem tupleD_lst (ws : List Dv) : tupleD [.lst ws] = M.ret (.tup ws) := Eq.trans rfl rfl
theorem listD_tup (ws : List Dv) (h : ws.length ≤ 1000000) : listD [.tup ws] = M.ret (.lst ws) := by
  funext S
  show (if ws.length ≤ sizeLine then some (Dv.lst ws, S) else none) = _
  rw [if_pos (line_ge h)]
  rfl
theorem listD_lst (ws : List Dv) (h : ws.length ≤ 1000000) : listD [.lst ws] = M.ret (.lst ws) := by
  funext S
  show (if ws.length ≤ sizeLine then some (Dv.lst ws, S) else none) = _
  rw [if_pos (line_ge h)]
  rfl
@[simp] theorem absD_int (i : Int) : absD [.int i] = M.ret (.int (if i < 0 then -i else i)) := Eq.trans rfl rfl
@[simp] theorem maxD_int (i j : Int) : maxD [.int i, .int j] = M.ret (.int (if j > i then j else i)) := Eq.trans rfl rfl
@[simp] theorem minD_int (i j : Int) : minD [.int i, .int j] = M.ret (.int (if j < i then j else i)) := Eq.trans rfl rfl
@[simp] theorem intD_int (i : Int) : intD [.int i] = M.ret (.int i) := Eq.trans rfl rfl
@[simp] theorem intD_bl (b : Bool) : intD [.bl b] = M.ret (.int (if b then 1 else 0)) := Eq.trans rfl rfl
theorem divmodD_int (i j : Int) (h : 0 < j) (h2 : j < 2 ^ 64) : divmodD [.int i, .int j] = M.ret (.tup [.int (i / j), .int (i % j)]) := by
  funext S
  show (if CDivP i j then some (Dv.tup [.int (i / j), .int (i % j)], S) else none) = _
  have hl := log2_64 (i := j) (by omega)
  rw [if_pos ⟨h, PyProof.noPylong_of_log2 (by omega)⟩]
  rfl
theorem allD_bools (bs : List Bool) : allD [.lst (bs.map .bl)] = M.ret (.bl (bs.all id)) := by
  funext S
  show (match boolsOf (bs.map .bl) with | some bs => some (Dv.bl (bs.all id), S) | none => none) = _
  rw [boolsOf_map]
  rfl
theorem anyD_bools (bs : List Bool) : anyD [.lst (bs.map .bl)] = M.ret (.bl (bs.any id)) := by
  funext S
  show (match boolsOf (bs.map .bl) with | some bs => some (Dv.bl (bs.any id), S) | none => none) = _
  rw [boolsOf_map]
  rfl
/-! isinstance -/
theorem isi_ty {w : Dv} {a b : String} {r : Bool} (h1 : tyN w = some a) (h2 : ∀ S, liveOk S w = true) (h3 : kitB a b = some r) : isiDD [w, .ty b] = M.ret (.bl r) := by
  funext S
  show (match tyN w with | some a => if liveOk S w = true then (match kitB a b with | some r => some (Dv.bl r, S) | none => none) else none | none => none) = _
  rw [h1]
  show (if liveOk S w = true then (match kitB a b with | some r => some (Dv.bl r, S) | none => none) else none) = _
  rw [if_pos (h2 S), h3]
  rfl
theorem kit_int_int : kitB "int" "int" = some true := by decide +kernel
theorem kit_int_bool : kitB "int" "bool" = some false := by decide +kernel
theorem kit_tuple_tuple : kitB "tuple" "tuple" = some true := by decide +kernel
theorem kit_list_tuple : kitB "list" "tuple" = some false := by decide +kernel
theorem kit_tuple_list : kitB "tuple" "list" = some false := by decide +kernel
theorem kit_list_list : kitB "list" "list" = some true := by decide +kernel
@[simp] theorem isi_int_int (i : Int) : isiDD [.int i, .ty "int"] = M.ret (.bl true) := isi_ty rfl (fun _ => rfl) kit_int_int
@[simp] theorem isi_int_bool (i : Int) : isiDD [.int i, .ty "bool"] = M.ret (.bl false) := isi_ty rfl (fun _ => rfl) kit_int_bool
@[simp] theorem isi_tup_tup (ws : List Dv) : isiDD [.tup ws, .ty "tuple"] = M.ret (.bl true) := isi_ty rfl (fun _ => rfl) kit_tuple_tuple
@[simp] theorem isi_lst_tup (ws : List Dv) : isiDD [.lst ws, .ty "tuple"] = M.ret (.bl false) := isi_ty rfl (fun _ => rfl) kit_list_tuple
theorem isi_tys {w : Dv} {a : String} {ts : List Dv} {r : Bool} (h1 : tyN w = some a) (h2 : ∀ S, liveOk S w = true) (ht : allTy ts = true) (h3 : kitAnyB a ts = some r) : isiDD [w, .tup ts] = M.ret (.bl r) := by
  funext S
  show (match tyN w with | some a => if liveOk S w = true ∧ allTy ts = true then (match kitAnyB a ts with | some r => some (Dv.bl r, S) | none => none) else none | none => none) = _
  rw [h1]
  show (if liveOk S w = true ∧ allTy ts = true then (match kitAnyB a ts with | some r => some (Dv.bl r, S) | none => none) else none) = _
  rw [if_pos ⟨h2 S, ht⟩, h3]
  rfl
theorem any_list_lt : kitAnyB "list" [.ty "list", .ty "tuple"] = some true := by
  unfold kitAnyB; rw [kit_list_list]
theorem any_tuple_lt : kitAnyB "tuple" [.ty "list", .ty "tuple"] = some true := by
  unfold kitAnyB; rw [kit_tuple_list]; unfold kitAnyB; rw [kit_tuple_tuple]
@[simp] theorem isi_lst_lt (ws : List Dv) : isiDD [.lst ws, .tup [.ty "list", .ty "tuple"]] = M.ret (.bl true) := isi_tys rfl (fun _ => rfl) rfl any_list_lt
@[simp] theorem isi_tup_lt (ws : List Dv) : isiDD [.tup ws, .tup [.ty "list", .ty "tuple"]] = M.ret (.bl true) := isi_tys rfl (fun _ => rfl) rfl any_tuple_lt
/-! items -/
theorem ixD_seq {x : Dv} {ws : List Dv} (h : ∀ S, sqV S x = some ws) (i : Int) : ixD x (.int i) = optM (atI ws i) := by
  funext S
  show (match sqV S x with | some ws => (match atI ws i with | some w => some (w, S) | none => none) | none => none) = _
  rw [h S]
  show (match atI ws i with | some w => some (w, S) | none => none) = optM (atI ws i) S
  generalize atI ws i = o
  cases o <;> rfl
@[simp] theorem ixD_tup (ws : List Dv) (i : Int) : ixD (.tup ws) (.int i) = optM (atI ws i) := ixD_seq (fun _ => rfl) i
@[simp] theorem ixD_lst (ws : List Dv) (i : Int) : ixD (.lst ws) (.int i) = optM (atI ws i) := ixD_seq (fun _ => rfl) i
@[simp] theorem ixD_kls (ws : List Dv) (i : Int) : ixD (.kls ws) (.int i) = optM (atI ws i) := ixD_seq (fun _ => rfl) i
@[simp] theorem atI_00 {α : Type} (a : α) (r : List α) : atI (a :: r) 0 = some a := by
  unfold atI ixN
  rw [if_pos (Int.le_refl 0), if_pos (by simp)]
  rfl
@[simp] theorem atI_1 {α : Type} (a b : α) (r : List α) : atI (a :: b :: r) 1 = some b := by
  unfold atI ixN
  rw [if_pos (by decide), if_pos (by simp; omega)]
  rfl
theorem atI_of {α : Type} {xs : List α} {i : Int} {a : α} (h0 : 0 ≤ i) (h : xs[i.toNat]? = some a) : atI xs i = some a := by
  have hl := (List.getElem?_eq_some_iff.mp h).1
  unfold atI ixN
  rw [if_pos h0, if_pos (by omega)]
  exact h
theorem atI_end {α : Type} {xs : List α} {a : α} (h : xs.getLast? = some a) : atI xs (-1) = some a := by
  have hne : xs ≠ [] := fun z => by rw [z] at h; cases h
  have hl : 0 < xs.length := List.length_pos_iff.mpr hne
  rw [List.getLast?_eq_getElem?] at h
  unfold atI ixN
  rw [if_neg (by decide), if_pos (by omega)]
  show xs[((xs.length : Int) + -1).toNat]? = _
  rw [show ((xs.length : Int) + -1).toNat = xs.length - 1 by omega]
  exact h
@[simp] theorem asI_int (i : Int) : asI (.int i) = M.ret (some i) := Eq.trans rfl rfl
@[simp] theorem slD_tup (ws : List Dv) (lo hi : Option Int) : slD (.tup ws) lo hi = M.ret (.tup (cutW ws lo hi)) := Eq.trans rfl rfl
@[simp] theorem slD_lst (ws : List Dv) (lo hi : Option Int) : slD (.lst ws) lo hi = M.ret (.lst (cutW ws lo hi)) := Eq.trans rfl rfl
theorem cut_map {α β : Type} (f : α → β) (xs : List α) (lo hi : Option Int) : cutW (xs.map f) lo hi = (cutW xs lo hi).map f := by
  unfold cutW
  rw [List.length_map, List.map_take, List.map_drop]
theorem cut_to {α : Type} (xs : List α) (k : Nat) : cutW xs none (some (k : Int)) = xs.take k := by
  unfold cutW
  rw [HT.sIx_none, HT.sIx_nat]
  simp [List.take_eq_take_iff]
theorem cut_from {α : Type} (xs : List α) (k : Nat) : cutW xs (some (k : Int)) none = xs.drop k := by
  unfold cutW
  rw [HT.sIx_none, HT.sIx_nat]
  by_cases h : k ≤ xs.length
  · rw [Nat.min_eq_left h]
    exact List.take_of_length_le (by simp)
  · rw [Nat.min_eq_right (by omega)]
    simp
    omega
theorem cut_part {α : Type} (xs : List α) (i j : Nat) : cutW xs (some (i : Int)) (some (j : Int)) = (xs.drop i).take (j - i) := by
  unfold cutW
  rw [HT.sIx_nat, HT.sIx_nat]
  by_cases h : i ≤ xs.length
  · rw [Nat.min_eq_left h]
    by_cases h2 : j ≤ xs.length
    · rw [Nat.min_eq_left h2]
    · rw [Nat.min_eq_right (by omega)]
      rw [List.take_of_length_le (by simp), List.take_of_length_le (by rw [List.length_drop]; omega)]
  · have h' : xs.length ≤ i := by omega
    have e1 : xs.drop i = [] := List.drop_eq_nil_of_le h'
    have e2 : xs.drop xs.length = [] := List.drop_eq_nil_of_le (Nat.le_refl _)
    rw [Nat.min_eq_right h', e1, e2]
    simp
end DD
namespace DD
open PySem PySem.Spec PyProof.Rows L2
variable [IW : HasW]
/-! ## small data -/
/-- depth at most d, weight at most n, whole numbers of at most 12 digits -/
structure Sm (d n : Nat) (w : Dv) : Prop where
  pu : w.pu = true
  sh : (py w).showable = true
  cl : (py w).canLay0 = true
  ih : (py w).intsShort 13 = true
  dp : (py w).depth ≤ d
  wt : (py w).weight ≤ n
structure Sms (d n : Nat) (ws : List Dv) : Prop where
  pu : Dv.pus ws = true
  sh : PyData.showableAll (pys ws) = true
  cl : PyData.canLayAll0 (pys ws) = true
  ih : PyData.intsShortAll 13 (pys ws) = true
  dp : PyData.depthAll (pys ws) ≤ d
  wt : PyData.weightAll (pys ws) ≤ (n + 1) * ws.length
theorem Sm.mono {d n d' n' : Nat} {w : Dv} (h : Sm d n w) (h1 : d ≤ d') (h2 : n ≤ n') : Sm d' n' w := ⟨h.pu, h.sh, h.cl, h.ih, Nat.le_trans h.dp h1, Nat.le_trans h.wt h2⟩
theorem Sms.of {d n : Nat} : ∀ {ws : List Dv}, (∀ w ∈ ws, Sm d n w) → Sms d n ws
  | [], _ => ⟨rfl, by simp [pys, PyData.showableAll], by simp [pys, PyData.canLayAll0], by simp [pys, PyData.intsShortAll], by simp [pys, PyData.depthAll], by simp [pys, PyData.weightAll]⟩
  | w :: ws, h => by
    have a := h w List.mem_cons_self
    have b := Sms.of fun x hx => h x (List.mem_cons_of_mem _ hx)
    refine ⟨by simp [Dv.pus, a.pu, b.pu], by simp [pys, PyData.showableAll, a.sh, b.sh], by simp [pys, PyData.canLayAll0, a.cl, b.cl], by simp [pys, PyData.intsShortAll, a.ih, b.ih], ?_, ?_⟩
    · simp only [pys, PyData.depthAll]
      have := a.dp; have := b.dp; omega
    · simp only [pys, PyData.weightAll, List.length_cons]
      have := a.wt; have := b.wt
      rw [Nat.mul_succ]; omega
theorem sm_non : Sm 0 0 .non := ⟨rfl, by simp [py, PyData.showable], by simp [py, PyData.canLay0], by simp [py, PyData.intsShort], by simp [py, PyData.depth], by simp [py, PyData.weight]⟩
theorem sm_bl (b : Bool) : Sm 0 0 (.bl b) := ⟨rfl, by simp [py, PyData.showable], by simp [py, PyData.canLay0], by simp [py, PyData.intsShort], by simp [py, PyData.depth], by simp [py, PyData.weight]⟩
theorem sm_int {i : Int} (h : -999999999999 ≤ i) (h2 : i ≤ 999999999999) : Sm 0 64 (.int i) := by
  have hl := log2_64 (i := i) (by omega)
  refine ⟨rfl, ?_, by simp [py, PyData.canLay0], ?_, by simp [py, PyData.depth], ?_⟩
  · simp only [py, PyData.showable, decide_eq_true_eq]; omega
  · simp only [py, PyData.intsShort, decide_eq_true_eq]
    exact PyData.shown_int_le2 h h2
  · simp only [py, PyData.weight]
    split <;> omega
theorem sm_tup {d n : Nat} {ws : List Dv} (h : ∀ w ∈ ws, Sm d n w) : Sm (d + 1) ((n + 1) * ws.length) (.tup ws) := by
  have b := Sms.of h
  exact ⟨b.pu, by simp [py, PyData.showable, b.sh], by simp [py, PyData.canLay0, b.cl], by simp [py, PyData.intsShort, b.ih], by simp only [py, PyData.depth]; have := b.dp; omega, by simp only [py, PyData.weight]; exact b.wt⟩
theorem sm_lst {d n : Nat} {ws : List Dv} (h : ∀ w ∈ ws, Sm d n w) : Sm (d + 1) ((n + 1) * ws.length) (.lst ws) := by
  have b := Sms.of h
  exact ⟨b.pu, by simp [py, PyData.showable, b.sh], by simp [py, PyData.canLay0, b.cl], by simp [py, PyData.intsShort, b.ih], by simp only [py, PyData.depth]; have := b.dp; omega, by simp only [py, PyData.weight]; exact b.wt⟩
theorem Sm.shown {d n : Nat} {w : Dv} (h : Sm d n w) (hd : d ≤ 60) (hn : n ≤ 1048576) : (py w).showable = true ∧ (py w).shown.length ≤ sizeLine ∧ (py w).depth ≤ 60 := by
  refine ⟨h.sh, ?_, Nat.le_trans h.dp hd⟩
  have hl : PyData.layable0 (py w) = true := by
    show (PyData.canLay0 (py w) && decide (PyData.depth (py w) ≤ 64) && decide (PyData.weight (py w) ≤ 2 ^ 20)) = true
    have h1 := h.dp
    have h2 := h.wt
    have e : (2 : Nat) ^ 20 = 1048576 := by decide
    simp only [Bool.and_eq_true, decide_eq_true_eq]
    exact ⟨⟨h.cl, by omega⟩, by omega⟩
  exact Nat.le_trans (shown_le13 hl h.ih) (by rw [sizeLine_eq]; decide)
theorem reprD_sm {d n : Nat} {w : Dv} (h : Sm d n w) (hd : d ≤ 60) (hn : n ≤ 1048576) : reprD [w] = M.ret (.str (py w).shown) := by
  funext S
  show (match res S w with | some p => if (py p).showable = true ∧ (py p).shown.length ≤ sizeLine ∧ (py p).depth ≤ 60 then some (Dv.str (py p).shown, S) else none | none => none) = _
  rw [res_pu h.pu]
  show (if (py w).showable = true ∧ (py w).shown.length ≤ sizeLine ∧ (py w).depth ≤ 60 then some (Dv.str (py w).shown, S) else none) = _
  rw [if_pos (h.shown hd hn)]
  rfl
theorem reprD_live {d n k : Nat} {ws : List Dv} {S : Sto} (h : Sm d n (.lst ws)) (hd : d ≤ 60) (hn : n ≤ 1048576) (hs : S[k]? = some (.lst ws)) : reprD [.ref k] S = some (.str (py (.lst ws)).shown, S) := by
  show (match res S (.ref k) with | some p => if (py p).showable = true ∧ (py p).shown.length ≤ sizeLine ∧ (py p).depth ≤ 60 then some (Dv.str (py p).shown, S) else none | none => none) = _
  rw [res_ref hs h.pu]
  show (if (py (.lst ws)).showable = true ∧ (py (.lst ws)).shown.length ≤ sizeLine ∧ (py (.lst ws)).depth ≤ 60 then some (Dv.str (py (.lst ws)).shown, S) else none) = _
  rw [if_pos (h.shown hd hn)]
theorem Sm.shaped {d n : Nat} {w : Dv} (h : Sm d n w) (hd : d ≤ 60) : SeqAt.shaped (py w) = true := by
  show (PyData.canLay0 (py w) && decide (PyData.depth (py w) ≤ 64)) = true
  have := h.dp
  simp only [Bool.and_eq_true, decide_eq_true_eq]
  exact ⟨h.cl, by omega⟩
theorem eqD_pu {x y : Dv} (hs : twoStr x y = none) (hx : x.pu = true) (hy : y.pu = true) (sx : SeqAt.shaped (py x) = true) (sy : SeqAt.shaped (py y) = true) : eqD x y = M.ret (.bl (PyData.eqv (py x) (py y))) := by
  funext S
  unfold eqD
  rw [hs, res_pu hx, res_pu hy]
  show (if SeqAt.shaped (py x) = true ∧ SeqAt.shaped (py y) = true then some (Dv.bl (PyData.eqv (py x) (py y)), S) else none) = _
  rw [if_pos ⟨sx, sy⟩]
  rfl
theorem neD_pu {x y : Dv} (hs : twoStr x y = none) (hx : x.pu = true) (hy : y.pu = true) (sx : SeqAt.shaped (py x) = true) (sy : SeqAt.shaped (py y) = true) : neD x y = M.ret (.bl (!PyData.eqv (py x) (py y))) := by
  funext S
  unfold neD
  rw [hs, res_pu hx, res_pu hy]
  show (if SeqAt.shaped (py x) = true ∧ SeqAt.shaped (py y) = true then some (Dv.bl (!PyData.eqv (py x) (py y)), S) else none) = _
  rw [if_pos ⟨sx, sy⟩]
  rfl
@[simp] theorem eqD_str (a b : Str) : eqD (.str a) (.str b) = M.ret (.bl (decide (a = b))) := by
  funext S
  show some (Dv.bl (decide (V.str a = V.str b)), S) = some (Dv.bl (decide (a = b)), S)
  have e : decide (V.str a = V.str b) = decide (a = b) := decide_eq_decide.mpr ⟨fun h => V.str.inj h, fun h => by rw [h]⟩
  rw [e]
@[simp] theorem neD_str (a b : Str) : neD (.str a) (.str b) = M.ret (.bl (!decide (a = b))) := by
  funext S
  show some (Dv.bl (!decide (V.str a = V.str b)), S) = some (Dv.bl (!decide (a = b)), S)
  have e : decide (V.str a = V.str b) = decide (a = b) := decide_eq_decide.mpr ⟨fun h => V.str.inj h, fun h => by rw [h]⟩
  rw [e]
theorem shaped_int (i : Int) : SeqAt.shaped (py (.int i)) = true := by
  show (PyData.canLay0 (.int i) && decide (PyData.depth (.int i) ≤ 64)) = true
  simp [PyData.canLay0, PyData.depth]
@[simp] theorem eqD_int (i j : Int) : eqD (.int i) (.int j) = M.ret (.bl (decide (i = j))) := by
  rw [eqD_pu rfl rfl rfl (shaped_int i) (shaped_int j)]
  show M.ret (Dv.bl (PyData.eqv (.int i) (.int j))) = _
  rw [PyData.eqv]
  rfl
@[simp] theorem neD_int (i j : Int) : neD (.int i) (.int j) = M.ret (.bl (!decide (i = j))) := by
  rw [neD_pu rfl rfl rfl (shaped_int i) (shaped_int j)]
  show M.ret (Dv.bl (!PyData.eqv (.int i) (.int j))) = _
  rw [PyData.eqv]
  rfl
theorem shown_strOk {d n : Nat} {w : Dv} (h : Sm d n w) : True := trivial
theorem eqv_str (x y : Str) : PyData.eqv (.str x) (.str y) = (x == y) := by rw [PyData.eqv]
/-- a text whose signs are of Unicode -/
theorem eqv_ints : ∀ u v : List Int, PyData.eqvAll (pys (u.map .int)) (pys (v.map .int)) = decide (u = v)
  | [], [] => by simp [pys, PyData.eqvAll]
  | [], _ :: _ => by simp [pys, py, PyData.eqvAll]
  | _ :: _, [] => by simp [pys, py, PyData.eqvAll]
  | a :: u, b :: v => by
    have ih := eqv_ints u v
    simp only [List.map_cons, pys, py, PyData.eqvAll, PyData.eqv, ih]
    by_cases h : a = b
    · subst h; simp
    · simp [h]
theorem eqv_refl_sm {d n : Nat} {w : Dv} (h : Sm d n w) : PyData.eqv (py w) (py w) = true := PySem.SeqAt.eqv_refl _ h.cl
/-! ## def -/
theorem take_len (S : Sto) : S.take S.length = S := List.take_of_length_le (Nat.le_refl _)
theorem keepOk_refl (S : Sto) : KeepOk S S := fun n ws hn h => .inl h
theorem outW_pu {k : Nat} {S : Sto} {w : Dv} (h : w.pu = true) : outW k S w = some w := by
  unfold outW
  rw [if_pos (pu_lt w h)]
theorem fnM_of {N : Nat} {m : En → M Fl} {ws : List Dv} {S S' : Sto} {w w' : Dv} (h : m (startE N ws) S = some (.rt w, S')) (ho : outW S.length S' w = some w') (hk : KeepOk S S') : fnM N m ws S = some (w', S'.take S.length) := by
  unfold fnM
  rw [h]
  show (match outW S.length S' w with | some w' => if KeepOk S S' then some (w', S'.take S.length) else none | none => none) = _
  rw [ho]
  show (if KeepOk S S' then some (w', S'.take S.length) else none) = _
  rw [if_pos hk]
theorem fnM_ret {N : Nat} {m : En → M Fl} {ws : List Dv} {w : Dv} (h : m (startE N ws) = M.ret (.rt w)) (hp : w.pu = true) : fnM N m ws = M.ret w := by
  funext S
  rw [fnM_of (w := w) (S' := S) (by rw [h]; rfl) (outW_pu hp) (keepOk_refl S), take_len]
  rfl
theorem fnM_nx {N : Nat} {m : En → M Fl} {ws : List Dv} {e : En} (h : m (startE N ws) = M.ret (.nx e)) : fnM N m ws = M.ret .non := by
  funext S
  unfold fnM
  rw [h]
  show (if KeepOk S S then some (Dv.non, S.take S.length) else none) = _
  rw [if_pos (keepOk_refl S), take_len]
  rfl
/-! ## loops -/
theorem rng1_eq (j : Int) (S : Sto) : rng1 (M.ret [.int j]) S = if -(2 ^ 62) ≤ j ∧ j < 2 ^ 62 then some (⟨rngW 0 j.toNat, none⟩, S) else none := rfl
theorem rng2_eq (i j : Int) (S : Sto) : rng2 (M.ret [.int i, .int j]) S = if -(2 ^ 62) ≤ i ∧ i < 2 ^ 62 ∧ -(2 ^ 62) ≤ j ∧ j < 2 ^ 62 then some (⟨rngW i (j - i).toNat, none⟩, S) else none := rfl
theorem rng1_nat (n : Nat) (h : n ≤ 1000000) : rng1 (M.ret [.int n]) = M.ret ⟨(List.range n).map fun i => .int (i : Nat), none⟩ := by
  funext S
  rw [rng1_eq, if_pos ⟨by omega, by omega⟩]
  simp [rngW, M.ret]
theorem rng2_nat (k n : Nat) (h : n ≤ 1000000) (hk : k ≤ 1000000) : rng2 (M.ret [.int k, .int n]) = M.ret ⟨(List.range (n - k)).map fun i => .int ((k + i : Nat) : Int), none⟩ := by
  funext S
  rw [rng2_eq, if_pos ⟨by omega, by omega, by omega, by omega⟩, show ((n : Int) - k).toNat = n - k by omega]
  simp [rngW, M.ret]
@[simp] theorem srD_tup (ws : List Dv) : srD (.tup ws) = M.ret ⟨ws, none⟩ := Eq.trans rfl rfl
@[simp] theorem srD_lst (ws : List Dv) : srD (.lst ws) = M.ret ⟨ws, none⟩ := Eq.trans rfl rfl
theorem chkB_none {α : Type} {s : Sr} {S : Sto} {k : Option α} (h : s.lv = none) : chkB s S k = k := by
  unfold chkB
  split
  · rfl
  · rename_i e; rw [h] at e; cases e
def outF (o : Option Dv) (e : En) : Fl := match o with
  | some w => .rt w
  | none => .nx e
@[simp] theorem outF_some (w : Dv) (e : En) : outF (some w) e = .rt w := Eq.trans rfl rfl
@[simp] theorem outF_none (e : En) : outF none e = .nx e := Eq.trans rfl rfl
/-- a loop that may leave early with an answer -/
theorem forM_find {α : Type} {s : Sr} (hs : s.lv = none) {g : Dv → En → M En} {b : En → M Fl} (f : α → Dv) (h : α → Option Dv) (I : En → Prop) :
    ∀ (xs : List α) (e : En), I e → (∀ x ∈ xs, ∀ e, I e → ∃ e', I e' ∧ M.bind (g (f x) e) b = M.ret (outF (h x) e')) →
      ∃ e', I e' ∧ forM g b s (xs.map f) e = M.ret (outF (xs.findSome? h) e')
  | [], e, hI, _ => ⟨e, hI, by funext S; show chkB s S _ = _; rw [chkB_none hs]; rfl⟩
  | x :: xs, e, hI, hb => by
    obtain ⟨e1, hI1, h1⟩ := hb x List.mem_cons_self e hI
    cases hx : h x with
    | some w =>
      refine ⟨e1, hI1, ?_⟩
      funext S
      rw [List.findSome?_cons, hx]
      show chkB s S (M.bind (g (f x) e) (fun e1 => M.bind (b e1) _) S) = _
      rw [chkB_none hs, ← M.bind_assoc, h1, hx]
      rfl
    | none =>
      obtain ⟨e', hI', h'⟩ := forM_find hs f h I xs e1 hI1 fun y hy => hb y (List.mem_cons_of_mem _ hy)
      refine ⟨e', hI', ?_⟩
      funext S
      rw [List.findSome?_cons, hx]
      show chkB s S (M.bind (g (f x) e) (fun e1 => M.bind (b e1) _) S) = _
      rw [chkB_none hs, ← M.bind_assoc, h1, hx]
      show forM g b s (xs.map f) e1 S = _
      rw [h']
/-- a loop with a state -/
theorem forM_fold {α σ : Type} {s : Sr} (hs : s.lv = none) {g : Dv → En → M En} {b : En → M Fl} (f : α → Dv) (up : σ → α → σ) (E : σ → En → Sto → Prop) :
    ∀ (xs : List α) (z : σ) (e : En) (S : Sto), E z e S → (∀ x ∈ xs, ∀ z e S, E z e S → ∃ e' S', E (up z x) e' S' ∧ M.bind (g (f x) e) b S = some (.nx e', S')) →
      ∃ e' S', E (xs.foldl up z) e' S' ∧ forM g b s (xs.map f) e S = some (.nx e', S')
  | [], z, e, S, hI, _ => ⟨e, S, hI, by show chkB s S _ = _; rw [chkB_none hs]⟩
  | x :: xs, z, e, S, hI, hb => by
    obtain ⟨e1, S1, hI1, h1⟩ := hb x List.mem_cons_self z e S hI
    obtain ⟨e', S', hI', h'⟩ := forM_fold hs f up E xs (up z x) e1 S1 hI1 fun y hy => hb y (List.mem_cons_of_mem _ hy)
    refine ⟨e', S', hI', ?_⟩
    show chkB s S (M.bind (g (f x) e) (fun e1 => M.bind (b e1) _) S) = _
    rw [chkB_none hs, ← M.bind_assoc, M.bind_of h1]
    exact h'
theorem lcM_ret {α : Type} {s : Sr} (hs : s.lv = none) {g : Dv → En → M En} {t : En → M Bool} {e : En → M Dv} {env0 : En} (f : α → Dv) (p : α → Bool) (h : α → Dv) :
    ∀ (xs : List α), (∀ x ∈ xs, ∃ env1, g (f x) env0 = M.ret env1 ∧ t env1 = M.ret (p x) ∧ (p x = true → e env1 = M.ret (h x))) → lcM s g t e env0 (xs.map f) = M.ret ((xs.filter p).map h)
  | [], _ => by funext S; show chkB s S _ = _; rw [chkB_none hs]; rfl
  | x :: xs, hb => by
    obtain ⟨env1, h1, h2, h3⟩ := hb x List.mem_cons_self
    have ih := lcM_ret hs f p h xs fun y hy => hb y (List.mem_cons_of_mem _ hy)
    funext S
    show chkB s S (M.bind (g (f x) env0) _ S) = _
    rw [chkB_none hs, h1, M.bind_ret, h2, M.bind_ret]
    cases hp : p x with
    | true =>
      rw [if_pos rfl, h3 hp, M.bind_ret, ih, M.bind_ret, List.filter_cons_of_pos hp]
      rfl
    | false =>
      rw [if_neg Bool.false_ne_true, ih, List.filter_cons_of_neg (by rw [hp]; exact Bool.false_ne_true)]
theorem lcD_ret {α : Type} {m : M Sr} {vs : List Nat} {g : Dv → En → M En} {t : En → M Bool} {e : En → M Dv} {env : En} (xs : List α) (f : α → Dv) (p : α → Bool) (h : α → Dv) (hm : m = M.ret ⟨xs.map f, none⟩) (hl : xs.length ≤ 1000000)
    (hb : ∀ x ∈ xs, ∃ env1, g (f x) (wpE env vs) = M.ret env1 ∧ t env1 = M.ret (p x) ∧ (p x = true → e env1 = M.ret (h x))) : lcD m vs g t e env = M.ret (.lst ((xs.filter p).map h)) := by
  unfold lcD
  rw [hm, M.bind_ret]
  show M.bind (lcM ⟨xs.map f, none⟩ g t e (wpE env vs) (xs.map f)) _ = _
  rw [lcM_ret rfl f p h xs hb, M.bind_ret]
  funext S
  show (if ((xs.filter p).map h).length ≤ sizeLine then some (Dv.lst ((xs.filter p).map h), S) else none) = _
  rw [if_pos (line_ge (by rw [List.length_map]; exact Nat.le_trans (List.length_filter_le _ _) hl))]
  rfl
/-- .. with a test that is always true -/
theorem lcD_map {α : Type} {m : M Sr} {vs : List Nat} {g : Dv → En → M En} {e : En → M Dv} {env : En} (xs : List α) (f : α → Dv) (h : α → Dv) (hm : m = M.ret ⟨xs.map f, none⟩) (hl : xs.length ≤ 1000000)
    (hb : ∀ x ∈ xs, ∃ env1, g (f x) (wpE env vs) = M.ret env1 ∧ e env1 = M.ret (h x)) : lcD m vs g (fun _ => M.ret true) e env = M.ret (.lst (xs.map h)) := by
  have := lcD_ret (t := fun _ => M.ret true) xs f (fun _ => true) h hm hl fun x hx => by
    obtain ⟨e1, h1, h2⟩ := hb x hx
    exact ⟨e1, h1, rfl, fun _ => h2⟩
  rw [this, List.filter_eq_self.mpr (fun _ _ => rfl)]
end DD
namespace DD
open PySem PySem.Spec PyProof.Rows L2
variable [IW : HasW]
theorem sIx_m1 (n d : Nat) : HT.sIx n d (some (-1)) = n - 1 := by
  unfold HT.sIx
  show (if (-1 : Int) < 0 then ((-1 : Int) + (n : Int)).toNat else min (-1 : Int).toNat n) = n - 1
  rw [if_pos (by decide)]
  omega
theorem cut_to_m1 {α : Type} (xs : List α) : cutW xs none (some (-1)) = xs.dropLast := by
  unfold cutW
  rw [sIx_m1, HT.sIx_none, List.dropLast_eq_take]
  simp
theorem cut_from_m1 {α : Type} (xs : List α) : cutW xs (some (-1)) none = xs.drop (xs.length - 1) := by
  unfold cutW
  rw [sIx_m1, HT.sIx_none]
  exact List.take_of_length_le (by rw [List.length_drop]; omega)
theorem findSome_ite {α β : Type} (p : α → Bool) (u : α → β) : ∀ xs : List α, xs.findSome? (fun x => if p x = true then some (u x) else none) = (xs.find? p).map u
  | [] => rfl
  | x :: xs => by
    rw [List.findSome?_cons, List.find?_cons]
    cases h : p x with
    | true => simp
    | false => simp [findSome_ite p u xs]
theorem whD_ret {t : En → M Bool} {b : En → M Fl} {env : En} {n : Nat} {f : Fl} (h : whN t b n env = M.ret f) : whD t b env = M.ret f := by
  funext S
  exact whD_of (n := n) (r := (f, S)) (by rw [h]; rfl)
theorem allD_true {α : Type} (xs : List α) : allD [.lst (xs.map fun _ => .bl true)] = M.ret (.bl true) := by
  have e : xs.map (fun _ => Dv.bl true) = (xs.map fun _ => true).map .bl := by rw [List.map_map]; rfl
  rw [e, allD_bools]
  congr 2
  rw [List.all_eq_true]
  intro b hb
  obtain ⟨_, _, rfl⟩ := List.mem_map.mp hb
  rfl
end DD
namespace DD
open PySem PySem.Spec PyProof.Rows L2
variable [IW : HasW]
theorem seq_find {α : Type} {m : M Sr} {g : Dv → En → M En} {b : En → M Fl} {env : En} {n : En → M Fl} (xs : List α) (f : α → Dv) (h : α → Option Dv) (I : En → Prop) {r : Fl} (hm : m = M.ret ⟨xs.map f, none⟩) (hI : I env)
    (hb : ∀ x ∈ xs, ∀ e, I e → ∃ e', I e' ∧ M.bind (g (f x) e) b = M.ret (outF (h x) e'))
    (hr : ∀ e', I e' → seqD (M.ret (outF (xs.findSome? h) e')) n = M.ret r) : seqD (forD m g b env) n = M.ret r := by
  obtain ⟨e', h1, h2⟩ := forM_find (s := ⟨xs.map f, none⟩) rfl f h I xs env hI hb
  unfold forD
  rw [hm, M.bind_ret, h2]
  exact hr e' h1
theorem for_find {α : Type} {m : M Sr} {g : Dv → En → M En} {b : En → M Fl} {env : En} (xs : List α) (f : α → Dv) (h : α → Option Dv) (I : En → Prop) (hm : m = M.ret ⟨xs.map f, none⟩) (hI : I env)
    (hb : ∀ x ∈ xs, ∀ e, I e → ∃ e', I e' ∧ M.bind (g (f x) e) b = M.ret (outF (h x) e')) :
    ∃ e', I e' ∧ forD m g b env = M.ret (outF (xs.findSome? h) e') := by
  obtain ⟨e', h1, h2⟩ := forM_find (s := ⟨xs.map f, none⟩) rfl f h I xs env hI hb
  refine ⟨e', h1, ?_⟩
  unfold forD
  rw [hm, M.bind_ret, h2]
theorem rep_map {α β : Type} (f : α → β) (u : List α) (m : Nat) : (List.replicate m (u.map f)).flatten = ((List.replicate m u).flatten).map f := by
  simp [List.map_flatten]
end DD
namespace DD
open PySem PySem.Spec PyProof.Rows L2
variable [IW : HasW]
/-- a loop with a state, and no live list in sight -/
theorem forM_pure {α σ : Type} {s : Sr} (hs : s.lv = none) {g : Dv → En → M En} {b : En → M Fl} (f : α → Dv) (up : σ → α → σ) (E : σ → En → Prop) :
    ∀ (xs : List α) (z : σ) (e : En), E z e → (∀ x ∈ xs, ∀ z e, E z e → ∃ e', E (up z x) e' ∧ M.bind (g (f x) e) b = M.ret (.nx e')) →
      ∃ e', E (xs.foldl up z) e' ∧ forM g b s (xs.map f) e = M.ret (.nx e')
  | [], z, e, hI, _ => ⟨e, hI, by funext S; show chkB s S _ = _; rw [chkB_none hs]; rfl⟩
  | x :: xs, z, e, hI, hb => by
    obtain ⟨e1, hI1, h1⟩ := hb x List.mem_cons_self z e hI
    obtain ⟨e', hI', h'⟩ := forM_pure hs f up E xs (up z x) e1 hI1 fun y hy => hb y (List.mem_cons_of_mem _ hy)
    refine ⟨e', hI', ?_⟩
    funext S
    show chkB s S (M.bind (g (f x) e) (fun e1 => M.bind (b e1) _) S) = _
    rw [chkB_none hs, ← M.bind_assoc, h1, M.bind_ret]
    show forM g b s (xs.map f) e1 S = _
    rw [h']
theorem forD_pure {α σ : Type} {m : M Sr} {g : Dv → En → M En} {b : En → M Fl} {env : En} (xs : List α) (f : α → Dv) (up : σ → α → σ) (E : σ → En → Prop) (z : σ) (hm : m = M.ret ⟨xs.map f, none⟩) (hI : E z env)
    (hb : ∀ x ∈ xs, ∀ z e, E z e → ∃ e', E (up z x) e' ∧ M.bind (g (f x) e) b = M.ret (.nx e')) : ∃ e', E (xs.foldl up z) e' ∧ forD m g b env = M.ret (.nx e') := by
  unfold forD
  rw [hm, M.bind_ret]
  exact forM_pure rfl f up E xs z env hI hb
end DD
namespace DD
open PySem PySem.Spec PyProof.Rows L2
variable [IW : HasW]
/-- .. with the number of turns -/
theorem forM_idx {α : Type} {s : Sr} (hs : s.lv = none) {g : Dv → En → M En} {b : En → M Fl} (f : α → Dv) (E : Nat → En → Prop) :
    ∀ (xs : List α) (k : Nat) (e : En), E k e → (∀ j x, xs[j]? = some x → ∀ e, E (k + j) e → ∃ e', E (k + j + 1) e' ∧ M.bind (g (f x) e) b = M.ret (.nx e')) →
      ∃ e', E (k + xs.length) e' ∧ forM g b s (xs.map f) e = M.ret (.nx e')
  | [], k, e, hI, _ => ⟨e, hI, by funext S; show chkB s S _ = _; rw [chkB_none hs]; rfl⟩
  | x :: xs, k, e, hI, hb => by
    obtain ⟨e1, hI1, h1⟩ := hb 0 x rfl e hI
    obtain ⟨e', hI', h'⟩ := forM_idx hs f E xs (k + 1) e1 hI1 fun j y hy e he => by
      have := hb (j + 1) y hy e (by rw [show k + (j + 1) = k + 1 + j by omega]; exact he)
      rw [show k + (j + 1) = k + 1 + j by omega] at this
      exact this
    refine ⟨e', by rw [List.length_cons, show k + (xs.length + 1) = k + 1 + xs.length by omega]; exact hI', ?_⟩
    funext S
    show chkB s S (M.bind (g (f x) e) (fun e1 => M.bind (b e1) _) S) = _
    rw [chkB_none hs, ← M.bind_assoc, h1, M.bind_ret]
    show forM g b s (xs.map f) e1 S = _
    rw [h']
theorem forD_idx {α : Type} {m : M Sr} {g : Dv → En → M En} {b : En → M Fl} {env : En} (xs : List α) (f : α → Dv) (E : Nat → En → Prop) (hm : m = M.ret ⟨xs.map f, none⟩) (hI : E 0 env)
    (hb : ∀ j x, xs[j]? = some x → ∀ e, E j e → ∃ e', E (j + 1) e' ∧ M.bind (g (f x) e) b = M.ret (.nx e')) : ∃ e', E xs.length e' ∧ forD m g b env = M.ret (.nx e') := by
  unfold forD
  rw [hm, M.bind_ret]
  have := forM_idx (s := ⟨xs.map f, none⟩) rfl f E xs 0 env hI (g := g) (b := b) fun j x hx e he => by
    rw [Nat.zero_add] at he ⊢
    exact hb j x hx e he
  rw [Nat.zero_add] at this
  exact this
end DD
namespace DD
open PySem PySem.Spec PyProof.Rows L2
variable [IW : HasW]
/-! ## programs that draw from a pot: a live list of two whole numbers -/
def Pot (n : Nat) (S : Sto) : Prop := ∃ a b : Int, S[n]? = some (.lst [.int a, .int b]) ∧ 0 ≤ b ∧ b < 2 ^ 32
structure Stp (n : Nat) (S S' : Sto) : Prop where
  le : S.length ≤ S'.length
  same : ∀ k, k < S.length → k ≠ n → S'[k]? = S[k]?
theorem Stp.refl (n : Nat) (S : Sto) : Stp n S S := ⟨Nat.le_refl _, fun _ _ _ => rfl⟩
theorem Stp.trans {n : Nat} {S T U : Sto} (h : Stp n S T) (k : Stp n T U) : Stp n S U := ⟨Nat.le_trans h.le k.le, fun i hi hn => (k.same i (Nat.lt_of_lt_of_le hi h.le) hn).trans (h.same i hi hn)⟩
theorem Pot.lt {n : Nat} {S : Sto} (h : Pot n S) : n < S.length := by
  obtain ⟨a, b, h, _⟩ := h
  exact (List.getElem?_eq_some_iff.mp h).1
/-- m runs, its answer is as P says, the pot stands -/
def Rn {α : Type} (n : Nat) (m : M α) (P : α → Prop) : Prop := ∀ S, Pot n S → ∃ a S', m S = some (a, S') ∧ P a ∧ Pot n S' ∧ Stp n S S'
theorem Rn.ret {α : Type} {n : Nat} {a : α} {P : α → Prop} (h : P a) : Rn n (M.ret a) P := fun S hS => ⟨a, S, rfl, h, hS, Stp.refl n S⟩
theorem Rn.bind {α β : Type} {n : Nat} {m : M α} {f : α → M β} {P : α → Prop} {Q : β → Prop} (h : Rn n m P) (k : ∀ a, P a → Rn n (f a) Q) : Rn n (M.bind m f) Q := by
  intro S hS
  obtain ⟨a, S1, h1, h2, h3, h4⟩ := h S hS
  obtain ⟨b, S2, k1, k2, k3, k4⟩ := k a h2 S1 h3
  exact ⟨b, S2, by rw [M.bind_of h1]; exact k1, k2, k3, h4.trans k4⟩
theorem Rn.mono {α : Type} {n : Nat} {m : M α} {P Q : α → Prop} (h : Rn n m P) (k : ∀ a, P a → Q a) : Rn n m Q := by
  intro S hS
  obtain ⟨a, S1, h1, h2, h3, h4⟩ := h S hS
  exact ⟨a, S1, h1, k a h2, h3, h4⟩
theorem Rn.eq {α : Type} {n : Nat} {m : M α} {a : α} {P : α → Prop} (h : m = M.ret a) (k : P a) : Rn n m P := by rw [h]; exact .ret k
theorem Rn.fn {n N : Nat} {m : En → M Fl} {ws : List Dv} {P : Dv → Prop} (h : Rn n (m (startE N ws)) fun f => ∃ w, f = .rt w ∧ w.pu = true ∧ P w) : Rn n (fnM N m ws) P := by
  intro S hS
  obtain ⟨f, S', h1, ⟨w, rfl, hp, hw⟩, h3, h4⟩ := h S hS
  have hl := hS.lt
  have h3' := h3
  obtain ⟨a, b, e, h0, hb⟩ := h3
  have hk : KeepOk S S' := by
    intro j us hj hu
    by_cases c : j = n
    · subst c
      rw [e] at hu
      cases hu
      exact .inr rfl
    · rw [h4.same j hj c] at hu
      exact .inl hu
  refine ⟨w, S'.take S.length, fnM_of h1 (outW_pu hp) hk, hw, ⟨a, b, ?_, h0, hb⟩, ?_, ?_⟩
  · rw [List.getElem?_take, if_pos hl]; exact e
  · rw [List.length_take]; have := h4.le; omega
  · intro k hk' hn
    rw [List.getElem?_take, if_pos hk']
    exact h4.same k hk' hn
/-! rules -/
theorem Rn.seq {n : Nat} {m : M Fl} {k : En → M Fl} {P : En → Prop} {Q : Fl → Prop} (h : Rn n m fun f => ∃ e, f = .nx e ∧ P e) (q : ∀ e, P e → Rn n (k e) Q) : Rn n (seqD m k) Q :=
  Rn.bind h fun f ⟨e, he, hp⟩ => by subst he; exact q e hp
theorem Rn.set {n i : Nat} {m : M Dv} {env : En} {k : En → M Fl} {P : Dv → Prop} {Q : Fl → Prop} (h : Rn n m P) (q : ∀ w, P w → Rn n (k (env.set i (some w))) Q) : Rn n (seqD (setS i m env) k) Q :=
  Rn.seq (P := fun e => ∃ w, P w ∧ e = env.set i (some w)) (Rn.bind h fun w hw => .ret ⟨_, rfl, w, hw, rfl⟩) fun e ⟨w, hw, he⟩ => by subst he; exact q w hw
theorem Rn.par {n i j : Nat} {m : M (List Dv)} {env : En} {k : En → M Fl} {P : Dv → Dv → Prop} {Q : Fl → Prop} (h : Rn n m fun ws => ∃ v w, ws = [v, w] ∧ P v w) (q : ∀ v w, P v w → Rn n (k ((env.set i (some v)).set j (some w))) Q) : Rn n (seqD (parS i j m env) k) Q :=
  Rn.seq (P := fun e => ∃ v w, P v w ∧ e = (env.set i (some v)).set j (some w)) (Rn.bind h fun ws ⟨v, w, e, hw⟩ => by subst e; exact .ret ⟨_, rfl, v, w, hw, rfl⟩) fun e ⟨v, w, hw, he⟩ => by subst he; exact q v w hw
theorem Rn.rets {n : Nat} {m : M Dv} {P : Fl → Prop} (h : Rn n m fun w => P (.rt w)) : Rn n (retS m) P := Rn.bind h fun w hw => .ret hw
theorem Rn.cons {n : Nat} {m : M Dv} {k : M (List Dv)} {P : Dv → Prop} {Q : List Dv → Prop} {R : List Dv → Prop} (h : Rn n m P) (q : Rn n k Q) (r : ∀ w ws, P w → Q ws → R (w :: ws)) : Rn n (consA m k) R :=
  Rn.bind h fun w hw => Rn.bind q fun ws hws => .ret (r w ws hw hws)
theorem Rn.call {n c : Nat} {g : List Dv → M Dv} {m : M (List Dv)} {P : List Dv → Prop} {Q : Dv → Prop} (h : Rn n m P) (q : ∀ ws, P ws → ws.length = c ∧ Rn n (g ws) Q) : Rn n (callD c g m) Q :=
  Rn.bind h fun ws hws => by rw [if_pos (q ws hws).1]; exact (q ws hws).2
/-- a comprehension that draws -/
theorem Rn.lcM {α : Type} {n : Nat} {s : Sr} (hs : s.lv = none) {g : Dv → En → M En} {e : En → M Dv} {env0 : En} (f : α → Dv) (P : α → Dv → Prop) :
    ∀ (xs : List α), (∀ x ∈ xs, ∃ env1, g (f x) env0 = M.ret env1 ∧ Rn n (e env1) (P x)) → Rn n (lcM s g (fun _ => M.ret true) e env0 (xs.map f)) fun ys => ys.length = xs.length ∧ ∀ y ∈ ys, ∃ x ∈ xs, P x y
  | [], _ => by
    intro S hS
    refine ⟨[], S, ?_, ⟨rfl, fun y hy => by cases hy⟩, hS, Stp.refl n S⟩
    show chkB s S _ = _
    rw [chkB_none hs]
  | x :: xs, hb => by
    obtain ⟨env1, h1, h2⟩ := hb x List.mem_cons_self
    have ih := Rn.lcM hs f P xs fun y hy => hb y (List.mem_cons_of_mem _ hy)
    have key : Rn n (M.bind (e env1) fun y => M.bind (DD.lcM s g (fun _ => M.ret true) e env0 (xs.map f)) fun ys => M.ret (y :: ys)) fun ys => ys.length = (x :: xs).length ∧ ∀ y ∈ ys, ∃ z ∈ x :: xs, P z y :=
      Rn.bind h2 fun y hy => Rn.bind ih fun ys ⟨l, hys⟩ => .ret ⟨by simp [l], fun z hz => by
        rcases List.mem_cons.mp hz with rfl | hz
        · exact ⟨x, List.mem_cons_self, hy⟩
        · obtain ⟨u, hu, pu⟩ := hys z hz
          exact ⟨u, List.mem_cons_of_mem _ hu, pu⟩⟩
    intro S hS
    obtain ⟨a, S', k1, k2⟩ := key S hS
    refine ⟨a, S', ?_, k2⟩
    show chkB s S (M.bind (g (f x) env0) _ S) = _
    rw [chkB_none hs, h1, M.bind_ret, M.bind_ret, if_pos rfl]
    exact k1
theorem Rn.lcD {α : Type} {n : Nat} {m : M Sr} {vs : List Nat} {g : Dv → En → M En} {e : En → M Dv} {env : En} (xs : List α) (f : α → Dv) (P : α → Dv → Prop) {Q : Dv → Prop} (hm : m = M.ret ⟨xs.map f, none⟩) (hl : xs.length ≤ 1000000)
    (hb : ∀ x ∈ xs, ∃ env1, g (f x) (wpE env vs) = M.ret env1 ∧ Rn n (e env1) (P x)) (hq : ∀ ys, ys.length = xs.length → (∀ y ∈ ys, ∃ x ∈ xs, P x y) → Q (.lst ys)) : Rn n (DD.lcD m vs g (fun _ => M.ret true) e env) Q := by
  unfold DD.lcD
  rw [hm, M.bind_ret]
  refine Rn.bind (Rn.lcM rfl f P xs hb) fun ys ⟨l, hys⟩ => ?_
  intro S hS
  exact ⟨.lst ys, S, by show (if ys.length ≤ sizeLine then some (Dv.lst ys, S) else none) = _; rw [if_pos (line_ge (by omega))], hq ys l hys, hS, Stp.refl n S⟩
/-- a for loop that draws -/
theorem Rn.forM {α : Type} {n : Nat} {s : Sr} (hs : s.lv = none) {g : Dv → En → M En} {b : En → M Fl} (f : α → Dv) (I : En → Prop) :
    ∀ (xs : List α) (e : En), I e → (∀ x ∈ xs, ∀ e, I e → Rn n (M.bind (g (f x) e) b) fun fl => ∃ e', fl = .nx e' ∧ I e') → Rn n (DD.forM g b s (xs.map f) e) fun fl => ∃ e', fl = .nx e' ∧ I e'
  | [], e, hI, _ => by
    intro S hS
    refine ⟨.nx e, S, ?_, ⟨e, rfl, hI⟩, hS, Stp.refl n S⟩
    show chkB s S _ = _
    rw [chkB_none hs]
  | x :: xs, e, hI, hb => by
    intro S hS
    obtain ⟨fl, S1, h1, ⟨e1, rfl, hI1⟩, h3, h4⟩ := hb x List.mem_cons_self e hI S hS
    obtain ⟨a, S2, k1, k2, k3, k4⟩ := Rn.forM hs f I xs e1 hI1 (fun y hy => hb y (List.mem_cons_of_mem _ hy)) S1 h3
    refine ⟨a, S2, ?_, k2, k3, h4.trans k4⟩
    show chkB s S (M.bind (g (f x) e) (fun e1 => M.bind (b e1) _) S) = _
    rw [chkB_none hs, ← M.bind_assoc, M.bind_of h1]
    exact k1
theorem Rn.forD {α : Type} {n : Nat} {m : M Sr} {g : Dv → En → M En} {b : En → M Fl} {env : En} (xs : List α) (f : α → Dv) (I : En → Prop) (hm : m = M.ret ⟨xs.map f, none⟩) (hI : I env)
    (hb : ∀ x ∈ xs, ∀ e, I e → Rn n (M.bind (g (f x) e) b) fun fl => ∃ e', fl = .nx e' ∧ I e') : Rn n (DD.forD m g b env) fun fl => ∃ e', fl = .nx e' ∧ I e' := by
  unfold DD.forD
  rw [hm, M.bind_ret]
  exact Rn.forM rfl f I xs env hI hb
theorem rng1_as (m : M (List Dv)) : rng1 m = M.bind m fun ws => rng1 (M.ret ws) := rfl
theorem lcD_as {α : Type} (m : M α) (f : α → M Sr) (vs : List Nat) (g : Dv → En → M En) (t : En → M Bool) (e : En → M Dv) (env : En) : DD.lcD (M.bind m f) vs g t e env = M.bind m fun x => DD.lcD (f x) vs g t e env := by
  unfold DD.lcD; rw [M.bind_assoc]
theorem forD_as {α : Type} (m : M α) (f : α → M Sr) (g : Dv → En → M En) (b : En → M Fl) (env : En) : DD.forD (M.bind m f) g b env = M.bind m fun x => DD.forD (f x) g b env := by
  unfold DD.forD; rw [M.bind_assoc]
/-! the pot's own places -/
theorem pot_ix0 {n : Nat} {S : Sto} {a b : Int} (h : S[n]? = some (.lst [.int a, .int b])) : ixD (.ref n) (.int 0) S = some (.int a, S) := by
  show (match sqV S (.ref n) with | some ws => (match atI ws 0 with | some w => some (w, S) | none => none) | none => none) = _
  have e : sqV S (.ref n) = some [.int a, .int b] := stL_of h
  rw [e]
  show (match atI [Dv.int a, .int b] 0 with | some w => some (w, S) | none => none) = _
  rw [atI_00]
theorem pot_ix1 {n : Nat} {S : Sto} {a b : Int} (h : S[n]? = some (.lst [.int a, .int b])) : ixD (.ref n) (.int 1) S = some (.int b, S) := by
  show (match sqV S (.ref n) with | some ws => (match atI ws 1 with | some w => some (w, S) | none => none) | none => none) = _
  have e : sqV S (.ref n) = some [.int a, .int b] := stL_of h
  rw [e]
  show (match atI [Dv.int a, .int b] 1 with | some w => some (w, S) | none => none) = _
  rw [atI_1]
theorem pot_put0 {n : Nat} {S : Sto} {a b z : Int} (h : S[n]? = some (.lst [.int a, .int b])) : putG (.ref n) (.int 0) (.int z) S = some ((), S.set n (.lst [.int z, .int b])) := by
  show (match stL S n with | some ws => (match ixN ws.length 0 with | some j => some ((), S.set n (.lst (ws.set j (.int z)))) | none => none) | none => none) = _
  rw [stL_of h]
  rfl
theorem pot_put1 {n : Nat} {S : Sto} {a b z : Int} (h : S[n]? = some (.lst [.int a, .int b])) : putG (.ref n) (.int 1) (.int z) S = some ((), S.set n (.lst [.int a, .int z])) := by
  show (match stL S n with | some ws => (match ixN ws.length 1 with | some j => some ((), S.set n (.lst (ws.set j (.int z)))) | none => none) | none => none) = _
  rw [stL_of h]
  rfl
theorem set_at {n : Nat} {S : Sto} {o p : MO} (h : S[n]? = some o) : (S.set n p)[n]? = some p := by
  have := (List.getElem?_eq_some_iff.mp h).1
  rw [List.getElem?_set_self this]
theorem set_stp {n : Nat} {S : Sto} {p : MO} : Stp n S (S.set n p) := ⟨by rw [List.length_set]; exact Nat.le_refl _, fun k _ hn => by rw [List.getElem?_set_ne (Ne.symm hn)]⟩
end DD
namespace DD
open PySem PySem.Spec PyProof.Rows L2
variable [IW : HasW]
theorem Rn.lst {n : Nat} {m : M (List Dv)} {P : List Dv → Prop} {Q : Dv → Prop} (h : Rn n m P) (q : ∀ ws, P ws → ws.length ≤ 1000000 ∧ Q (.lst ws)) : Rn n (lstD m) Q :=
  Rn.bind h fun ws hws => by
    intro S hS
    exact ⟨.lst ws, S, by show (if ws.length ≤ sizeLine then some (Dv.lst ws, S) else none) = _; rw [if_pos (line_ge (q ws hws).1)], (q ws hws).2, hS, Stp.refl n S⟩
theorem Rn.callK {n np nk c : Nat} {ix : List Nat} {g : List Dv → M Dv} {m mk : M (List Dv)} {P Q : List Dv → Prop} {R : Dv → Prop} (h : Rn n m P) (h2 : Rn n mk Q)
    (q : ∀ us zs, P us → Q zs → us.length = np ∧ zs.length = nk ∧ (pick ix (us ++ zs)).length = c ∧ Rn n (g (pick ix (us ++ zs))) R) : Rn n (DD.callK np nk ix c g m mk) R :=
  Rn.bind h fun us hus => Rn.bind h2 fun zs hzs => by
    obtain ⟨a, b, d, e⟩ := q us zs hus hzs
    rw [if_pos ⟨a, b, d⟩]
    exact e
end DD
namespace DD
open PySem PySem.Spec PyProof.Rows L2
variable [IW : HasW]
/-! ## live lists of a def's own -/
/-- S' has more lists than S, and S's own as they were -/
structure Ext (S S' : Sto) : Prop where
  le : S.length ≤ S'.length
  tk : S'.take S.length = S
theorem Ext.refl (S : Sto) : Ext S S := ⟨Nat.le_refl _, take_len S⟩
theorem Ext.push {S S' : Sto} (h : Ext S S') (o : MO) : Ext S (S' ++ [o]) := ⟨by rw [List.length_append]; have := h.le; omega, by rw [List.take_append_of_le_length h.le]; exact h.tk⟩
theorem Ext.set {S S' : Sto} (h : Ext S S') {n : Nat} (hn : S.length ≤ n) (o : MO) : Ext S (S'.set n o) := ⟨by rw [List.length_set]; exact h.le, by rw [List.take_set_of_le hn]; exact h.tk⟩
theorem Ext.trans {S T U : Sto} (h : Ext S T) (k : Ext T U) : Ext S U := ⟨Nat.le_trans h.le k.le, by
  have e : U.take S.length = (U.take T.length).take S.length := by rw [List.take_take, Nat.min_eq_left h.le]
  rw [e, k.tk, h.tk]⟩
theorem Ext.get {S S' : Sto} (h : Ext S S') {k : Nat} (hk : k < S.length) : S'[k]? = S[k]? := by
  have : (S'.take S.length)[k]? = S[k]? := by rw [h.tk]
  rwa [List.getElem?_take, if_pos hk] at this
theorem Ext.keep {S S' : Sto} (h : Ext S S') : KeepOk S S' := fun n ws hn hs => .inl (by rw [← h.get hn]; exact hs)
theorem Ext.stp {S S' : Sto} (h : Ext S S') (n : Nat) : Stp n S S' := ⟨h.le, fun k hk _ => h.get hk⟩
theorem Ext.pot {S S' : Sto} {n : Nat} (h : Ext S S') (p : Pot n S) : Pot n S' := by
  have hl := p.lt
  obtain ⟨a, b, e, q⟩ := p
  exact ⟨a, b, by rw [h.get hl]; exact e, q⟩
theorem Rn.ext {α : Type} {n : Nat} {m : M α} {P : α → Prop} (h : ∀ S, ∃ a S', m S = some (a, S') ∧ P a ∧ Ext S S') : Rn n m P := fun S hS => by
  obtain ⟨a, S', h1, h2, h3⟩ := h S
  exact ⟨a, S', h1, h2, h3.pot hS, h3.stp n⟩
theorem fnM_pu {N : Nat} {m : En → M Fl} {ws : List Dv} {S S' : Sto} {w : Dv} (h : m (startE N ws) S = some (.rt w, S')) (hp : w.pu = true) (he : Ext S S') : fnM N m ws S = some (w, S) := by
  have := fnM_of h (outW_pu hp) he.keep
  rw [he.tk] at this
  exact this
theorem outW_of {k n : Nat} {S : Sto} {o : MO} {w : Dv} (hn : k ≤ n) (h : S[n]? = some o) (hw : o.fz = some w) (hp : o.lt k = true) : outW k S (.ref n) = some w := by
  unfold outW
  rw [if_neg (by simp [Dv.lt]; omega)]
  show (match S[n]? with | some o => if o.lt k = true then o.fz else none | none => none) = _
  rw [h]
  show (if o.lt k = true then o.fz else none) = _
  rw [if_pos hp, hw]
theorem outW_live {k n : Nat} {S : Sto} {us : List Dv} (hn : k ≤ n) (h : S[n]? = some (.lst us)) (hp : Dv.pus us = true) : outW k S (.ref n) = some (.lst us) := outW_of hn h rfl (pus_lts us hp)
theorem fnM_liveO {N n : Nat} {m : En → M Fl} {ws : List Dv} {o : MO} {w : Dv} {S S' : Sto} (h : m (startE N ws) S = some (.rt (.ref n), S')) (hn : S.length ≤ n) (hu : S'[n]? = some o) (hw : o.fz = some w) (hp : o.lt S.length = true) (he : Ext S S') : fnM N m ws S = some (w, S) := by
  have := fnM_of h (outW_of hn hu hw hp) he.keep
  rw [he.tk] at this
  exact this
theorem fnM_live {N n : Nat} {m : En → M Fl} {ws us : List Dv} {S S' : Sto} (h : m (startE N ws) S = some (.rt (.ref n), S')) (hn : S.length ≤ n) (hu : S'[n]? = some (.lst us)) (hp : Dv.pus us = true) (he : Ext S S') : fnM N m ws S = some (.lst us, S) := by
  have := fnM_of h (outW_live hn hu hp) he.keep
  rw [he.tk] at this
  exact this
theorem fnL_liveO {N n : Nat} {m : En → M Fl} {ws : List Dv} {o : MO} {S S' : Sto} (h : m (startE N ws) S = some (.rt (.ref n), S')) (hn : S.length ≤ n) (hu : S'[n]? = some o) (ho : o.fz.isSome = true) (hp : o.lt S.length = true) (he : Ext S S') : fnL N m ws S = some (.ref S.length, S ++ [o]) := by
  unfold fnL
  rw [h]
  show (if n < S.length then none else match S'[n]? with | some o => if o.lt S.length = true ∧ o.fz.isSome = true ∧ KeepOk S S' then some (Dv.ref S.length, S'.take S.length ++ [o]) else none | none => none) = _
  rw [if_neg (by omega), hu]
  show (if o.lt S.length = true ∧ o.fz.isSome = true ∧ KeepOk S S' then some (Dv.ref S.length, S'.take S.length ++ [o]) else none) = _
  rw [if_pos ⟨hp, ho, he.keep⟩, he.tk]
theorem fnL_live {N n : Nat} {m : En → M Fl} {ws us : List Dv} {S S' : Sto} (h : m (startE N ws) S = some (.rt (.ref n), S')) (hn : S.length ≤ n) (hu : S'[n]? = some (.lst us)) (hp : Dv.pus us = true) (he : Ext S S') : fnL N m ws S = some (.ref S.length, S ++ [.lst us]) := fnL_liveO h hn hu rfl (pus_lts us hp) he
/-! ## steps -/
theorem new_ret (ws : List Dv) (h : ws.length ≤ 1000000) (S : Sto) : newD (M.ret ws) S = some (.ref S.length, S ++ [.lst ws]) := by
  show (if ws.length ≤ sizeLine then some (Dv.ref S.length, S ++ [.lst ws]) else none) = _
  rw [if_pos (line_ge h)]
theorem last_at (S : Sto) (o : MO) : (S ++ [o])[S.length]? = some o := by
  rw [List.getElem?_append_right (Nat.le_refl _), Nat.sub_self]; rfl
theorem get_push {S : Sto} {n : Nat} {p : MO} (h : S[n]? = some p) (o : MO) : (S ++ [o])[n]? = some p := by
  rw [List.getElem?_append_left (List.getElem?_eq_some_iff.mp h).1]; exact h
theorem get_set {S : Sto} {n k : Nat} {p o : MO} (h : S[n]? = some p) (hn : k ≠ n) : (S.set k o)[n]? = some p := by
  rw [List.getElem?_set_ne hn]; exact h
theorem chk_ref {S : Sto} {n : Nat} {us : List Dv} (h : S[n]? = some (.lst us)) : chkL (.ref n) S = some ((), S) := by
  show (match lsV S (.ref n) with | some _ => some ((), S) | none => none) = _
  rw [show lsV S (.ref n) = some us from stL_of h]
theorem app_ref {S : Sto} {n : Nat} {us : List Dv} (h : S[n]? = some (.lst us)) (hl : us.length < 1000000) (w : Dv) : appD (.ref n) [w] S = some (.non, S.set n (.lst (us ++ [w]))) := by
  show (match stL S n with | some us => if us.length < sizeLine then some (Dv.non, S.set n (.lst (us ++ [w]))) else none | none => none) = _
  rw [stL_of h]
  show (if us.length < sizeLine then some (Dv.non, S.set n (.lst (us ++ [w]))) else none) = _
  rw [if_pos (Nat.lt_of_lt_of_le hl (line_ge (Nat.le_refl _)))]
theorem ext_ref {S : Sto} {n : Nat} {us vs : List Dv} {w : Dv} (h : S[n]? = some (.lst us)) (hw : lsV S w = some vs) (hl : us.length + vs.length ≤ 1000000) : extD (.ref n) [w] S = some (.non, S.set n (.lst (us ++ vs))) := by
  show (match stL S n, lsV S w with | some us, some vs => if us.length + vs.length ≤ sizeLine then some (Dv.non, S.set n (.lst (us ++ vs))) else none | _, _ => none) = _
  rw [stL_of h, hw]
  show (if us.length + vs.length ≤ sizeLine then some (Dv.non, S.set n (.lst (us ++ vs))) else none) = _
  rw [if_pos (line_ge hl)]
/-- o.append(..), o a live list -/
theorem bm_app {S : Sto} {n : Nat} {us : List Dv} {m : M Dv} {k : M (List Dv)} {w : Dv} (hm : m = M.ret (.ref n)) (hk : k = M.ret [w]) (h : S[n]? = some (.lst us)) (hl : us.length < 1000000) : bmD appD m k S = some (.non, S.set n (.lst (us ++ [w]))) := by
  unfold bmD
  rw [hm, hk, M.bind_ret, M.bind_of (chk_ref h), M.bind_ret]
  exact app_ref h hl w
theorem bm_ext {S : Sto} {n : Nat} {us vs : List Dv} {m : M Dv} {k : M (List Dv)} {w : Dv} (hm : m = M.ret (.ref n)) (hk : k = M.ret [w]) (h : S[n]? = some (.lst us)) (hw : lsV S w = some vs) (hl : us.length + vs.length ≤ 1000000) : bmD extD m k S = some (.non, S.set n (.lst (us ++ vs))) := by
  unfold bmD
  rw [hm, hk, M.bind_ret, M.bind_of (chk_ref h), M.bind_ret]
  exact ext_ref h hw hl
/-- .. with an argument that is reckoned at the store -/
theorem bm_appS {S S' : Sto} {n : Nat} {us us' : List Dv} {m : M Dv} {k : M (List Dv)} {w : Dv} (hm : m = M.ret (.ref n)) (h : S[n]? = some (.lst us)) (hk : k S = some ([w], S')) (h' : S'[n]? = some (.lst us')) (hl : us'.length < 1000000) : bmD appD m k S = some (.non, S'.set n (.lst (us' ++ [w]))) := by
  unfold bmD
  rw [hm, M.bind_ret, M.bind_of (chk_ref h), M.bind_of hk]
  exact app_ref h' hl w
theorem bm_extS {S S' : Sto} {n : Nat} {us us' vs : List Dv} {m : M Dv} {k : M (List Dv)} {w : Dv} (hm : m = M.ret (.ref n)) (h : S[n]? = some (.lst us)) (hk : k S = some ([w], S')) (h' : S'[n]? = some (.lst us')) (hw : lsV S' w = some vs) (hl : us'.length + vs.length ≤ 1000000) : bmD extD m k S = some (.non, S'.set n (.lst (us' ++ vs))) := by
  unfold bmD
  rw [hm, M.bind_ret, M.bind_of (chk_ref h), M.bind_of hk]
  exact ext_ref h' hw hl
theorem ls_ref {S : Sto} {n : Nat} {us : List Dv} (h : S[n]? = some (.lst us)) : lsV S (.ref n) = some us := stL_of h
theorem ix_ref {S : Sto} {n : Nat} {us : List Dv} {i : Int} {w : Dv} (h : S[n]? = some (.lst us)) (hw : atI us i = some w) : ixD (.ref n) (.int i) S = some (w, S) := by
  show (match sqV S (.ref n) with | some ws => (match atI ws i with | some w => some (w, S) | none => none) | none => none) = _
  rw [show sqV S (.ref n) = some us from stL_of h]
  show (match atI us i with | some w => some (w, S) | none => none) = _
  rw [hw]
theorem len_ref {S : Sto} {n : Nat} {us : List Dv} (h : S[n]? = some (.lst us)) : lenD [.ref n] S = some (.int us.length, S) := by
  show (match sqV S (.ref n) with | some ws => some (Dv.int ws.length, S) | none => none) = _
  rw [show sqV S (.ref n) = some us from stL_of h]
theorem fz_refO {S : Sto} {n : Nat} {o : MO} {w : Dv} (h : S[n]? = some o) (hw : o.fz = some w) : fzD (.ref n) S = some (w, S.set n .gone) := by
  show (match fzS S n with | some w => some (w, S.set n .gone) | none => none) = _
  have e : fzS S n = some w := by unfold fzS; rw [h]; exact hw
  rw [e]
theorem fz_ref {S : Sto} {n : Nat} {us : List Dv} (h : S[n]? = some (.lst us)) : fzD (.ref n) S = some (.lst us, S.set n .gone) := fz_refO h rfl
theorem seq_of {m : M Fl} {k : En → M Fl} {S S' : Sto} {e : En} (h : m S = some (.nx e, S')) : seqD m k S = k e S' := by
  unfold seqD; rw [M.bind_of h]
theorem set_of {m : M Dv} {i : Nat} {env : En} {S S' : Sto} {w : Dv} (h : m S = some (w, S')) : setS i m env S = some (.nx (env.set i (some w)), S') := by
  unfold setS; rw [M.bind_of h]; rfl
theorem expr_of {m : M Dv} {env : En} {S S' : Sto} {w : Dv} (h : m S = some (w, S')) : exprS m env S = some (.nx env, S') := by
  unfold exprS; rw [M.bind_of h]; rfl
theorem ret_of {m : M Dv} {S S' : Sto} {w : Dv} (h : m S = some (w, S')) : retS m S = some (.rt w, S') := by
  unfold retS; rw [M.bind_of h]; rfl
/-- a loop over the store, by the number of turns -/
theorem forM_idxS {α : Type} {s : Sr} (hs : s.lv = none) {g : Dv → En → M En} {b : En → M Fl} (f : α → Dv) (E : Nat → En → Sto → Prop) :
    ∀ (xs : List α) (k : Nat) (e : En) (S : Sto), E k e S → (∀ j x, xs[j]? = some x → ∀ e S, E (k + j) e S → ∃ e' S', E (k + j + 1) e' S' ∧ M.bind (g (f x) e) b S = some (.nx e', S')) →
      ∃ e' S', E (k + xs.length) e' S' ∧ forM g b s (xs.map f) e S = some (.nx e', S')
  | [], k, e, S, hI, _ => ⟨e, S, hI, by show chkB s S _ = _; rw [chkB_none hs]⟩
  | x :: xs, k, e, S, hI, hb => by
    obtain ⟨e1, S1, hI1, h1⟩ := hb 0 x rfl e S hI
    obtain ⟨e', S', hI', h'⟩ := forM_idxS hs f E xs (k + 1) e1 S1 hI1 fun j y hy e S he => by
      have := hb (j + 1) y hy e S (by rw [show k + (j + 1) = k + 1 + j by omega]; exact he)
      rw [show k + (j + 1) = k + 1 + j by omega] at this
      exact this
    refine ⟨e', S', by rw [List.length_cons, show k + (xs.length + 1) = k + 1 + xs.length by omega]; exact hI', ?_⟩
    show chkB s S (M.bind (g (f x) e) (fun e1 => M.bind (b e1) _) S) = _
    rw [chkB_none hs, ← M.bind_assoc, M.bind_of h1]
    exact h'
theorem forD_idxS {α : Type} {m : M Sr} {g : Dv → En → M En} {b : En → M Fl} {env : En} {S S0 : Sto} (xs : List α) (f : α → Dv) (E : Nat → En → Sto → Prop) (hm : m S = some (⟨xs.map f, none⟩, S0)) (hI : E 0 env S0)
    (hb : ∀ j x, xs[j]? = some x → ∀ e S, E j e S → ∃ e' S', E (j + 1) e' S' ∧ M.bind (g (f x) e) b S = some (.nx e', S')) : ∃ e' S', E xs.length e' S' ∧ forD m g b env S = some (.nx e', S') := by
  unfold forD
  rw [M.bind_of hm]
  have := forM_idxS (s := ⟨xs.map f, none⟩) rfl f E xs 0 env S0 hI (g := g) (b := b) fun j x hx e S he => by
    rw [Nat.zero_add] at he ⊢
    exact hb j x hx e S he
  rw [Nat.zero_add] at this
  exact this
end DD
namespace DD
open PySem PySem.Spec PyProof.Rows L2
variable [IW : HasW]
theorem lcD_retS {α : Type} {m : M Sr} {vs : List Nat} {g : Dv → En → M En} {t : En → M Bool} {e : En → M Dv} {env : En} {S : Sto} (xs : List α) (f : α → Dv) (p : α → Bool) (h : α → Dv) (hm : m S = some (⟨xs.map f, none⟩, S)) (hl : xs.length ≤ 1000000)
    (hb : ∀ x ∈ xs, ∃ env1, g (f x) (wpE env vs) = M.ret env1 ∧ t env1 = M.ret (p x) ∧ (p x = true → e env1 = M.ret (h x))) : lcD m vs g t e env S = some (.lst ((xs.filter p).map h), S) := by
  have := lcD_ret (env := env) (vs := vs) xs f p h (m := M.ret ⟨xs.map f, none⟩) rfl hl hb
  unfold lcD at this ⊢
  rw [M.bind_of hm]
  rw [M.bind_ret] at this
  rw [this]
  rfl
theorem cons_of {m : M Dv} {ws : List Dv} {S S' : Sto} {w : Dv} (h : m S = some (w, S')) : consA m (M.ret ws) S = some (w :: ws, S') := by
  rw [consA_def, M.bind_of h]; rfl
theorem consR {w : Dv} {k : M (List Dv)} {S S' : Sto} {ws : List Dv} (h : k S = some (ws, S')) : consA (M.ret w) k S = some (w :: ws, S') := by
  rw [consA_def, M.bind_ret, M.bind_of h]; rfl
theorem call_of {n : Nat} {g : List Dv → M Dv} {m : M (List Dv)} {S S' : Sto} {ws : List Dv} (h : m S = some (ws, S')) (hl : ws.length = n) : callD n g m S = g ws S' := by
  unfold callD
  rw [M.bind_of h, if_pos hl]
end DD
namespace DD
open PySem PySem.Spec PyProof.Rows L2
variable [IW : HasW]
/-! ## dicts whose keys are tuples -/
section
variable {X : Cx} {pins : List (Addr × Obj)} {σ : L2.St} {H : Hp} {s : Shared} {hd : List Addr} {io : List Addr} {S : Sto}
theorem nks_cons {w : Dv} {ws : List Dv} {ks : List NestedKey} (h : nks (w :: ws) = some ks) : ∃ k kr, ks = k :: kr ∧ nk w = some k ∧ nks ws = some kr := by
  unfold nks at h
  split at h
  · rename_i k kr h1 h2
    cases h
    exact ⟨k, kr, rfl, h1, h2⟩
  · cases h
mutual
theorem dn_nk (I : Inv X pins σ H s) : ∀ (w : Dv) (v : V) (u : Value) (k : NestedKey), Dn ⟨X.K, hd⟩ H io S w v → RelV v u → nk w = some k → NestedIs s.heap k u
  | .non, v, u, k, d, ru, h => by
    have e : v = .non := d
    subst e; cases ru; cases h; exact .none
  | .bl b, v, u, k, d, ru, h => by
    have e : v = .bl b := d
    subst e; cases ru; cases h; exact .bool rfl
  | .int i, v, u, k, d, ru, h => by
    have e : v = .int i := d
    subst e
    obtain ⟨t, rfl⟩ := ru
    cases h; exact .int i t
  | .str x, v, u, k, d, ru, h => by
    have e : v = .str x := d
    subst e
    obtain ⟨t, rfl⟩ := ru
    cases h; exact .text x t
  | .tup ws, v, u, k, d, ru, h => by
    obtain ⟨a, xs, rfl, ht, dx⟩ := d
    have h' : (nks ws).map NestedKey.tup = some k := by rw [nk] at h; exact h
    obtain ⟨ks, hk, rfl⟩ := Option.map_eq_some_iff.mp h'
    obtain ⟨its, r, ⟨o, ho, hc, n, hdt⟩, _⟩ := I.tuple ht.sq
    cases ru
    exact .tup ho hc hdt (by simpa using dns_nk I ws xs its ks dx r hk)
  | .lst _, _, _, _, _, _, h => by cases h
  | .ref _, _, _, _, _, _, h => by cases h
  | .kls _, _, _, _, _, _, h => by cases h
  | .ty _, _, _, _, _, _, h => by cases h
  | .fx _, _, _, _, _, _, h => by cases h
  | .dct _ _, _, _, _, _, _, h => by cases h
  | .dck _ _, _, _, _, _, _, h => by cases h
  | .ob _ _ _, _, _, _, _, _, h => by cases h
  | .sti _, _, _, _, _, _, h => by cases h
  | .cl _, _, _, _, _, _, h => by cases h
  | .stt _, _, _, _, _, _, h => by cases h
theorem dns_nk (I : Inv X pins σ H s) : ∀ (ws : List Dv) (vs : List V) (us : List Value) (ks : List NestedKey), Dns ⟨X.K, hd⟩ H io S ws vs → Vals vs us → nks ws = some ks → NestedAll s.heap ks us
  | [], vs, us, ks, d, ru, h => by
    have e : vs = [] := d
    subst e; cases ru; cases h; exact .nil
  | w :: ws, vs, us, ks, d, ru, h => by
    obtain ⟨v, vr, rfl, d1, d2⟩ := d
    obtain ⟨k, kr, rfl, h1, h2⟩ := nks_cons h
    obtain ⟨u, ur, rfl, r1, r2⟩ : ∃ u ur, us = u :: ur ∧ RelV v u ∧ Vals vr ur := by
      cases ru with
      | cons a b => exact ⟨_, _, rfl, a, b⟩
    exact .cons (dn_nk I w v u k d1 r1 h1) (dns_nk I ws vr ur kr d2 r2 h2)
end
/-- the value at a key -/
def valD (ks vs : List Dv) (k : NestedKey) : Option Dv := match nks ks with
  | some js => ((js.zip vs).find? fun p => decide (p.1 = k)).map (·.2)
  | none => none
theorem vals_ref : ∀ {as : List Addr} {us : List Value}, Vals (as.map V.ref) us → us = as.map Value.ref
  | [], _, .nil => rfl
  | a :: as, _, .cons r t => by
    cases r
    rw [vals_ref t]; rfl
theorem vals_ref' : ∀ (as : List Addr), Vals (as.map V.ref) (as.map Value.ref)
  | [] => .nil
  | a :: as => .cons rfl (vals_ref' as)
/-- a dict of the abstract heap is a dict of the model -/
theorem dct_of (I : Inv X pins σ H s) (hP : IW.P = X.prog) (hw : IW.w = X.w) {a : Addr} {xs : List Ent} {ks : List Dv} (h : H a = some (DctO a xs)) (hk : nks ks = some (xs.map (·.1))) (dk : Dns ⟨X.K, hd⟩ H io S ks (xs.map fun x => V.ref x.2.1)) :
    s.heap.DictOfH (nestedKind X.prog X.w) a xs ∧ xs.length ≤ sizeLine ∧ (a == sysModules) = false := by
  obtain ⟨⟨o, es, ep, h1, h2, h3, h4, h5, h6, h7, h8⟩, _⟩ := I.hok a _ h
  rw [hP, hw] at h4
  refine ⟨⟨o, es, ep, h1, h2, h3, h4, fun x hx => ⟨?_, h8 x hx⟩, h5⟩, h6, h7⟩
  have q : NestedAll s.heap (xs.map (·.1)) ((xs.map (·.2.1)).map Value.ref) := by
    have e : (xs.map fun x => V.ref x.2.1) = (xs.map (·.2.1)).map V.ref := by rw [List.map_map]; rfl
    rw [e] at dk
    exact dns_nk I ks _ _ _ dk (vals_ref' _) hk
  have key : ∀ (ys : List Ent), NestedAll s.heap (ys.map (·.1)) ((ys.map (·.2.1)).map Value.ref) → ∀ x ∈ ys, NestedIs s.heap x.1 (.ref x.2.1) := by
    intro ys
    induction ys with
    | nil => intro _ x hx; cases hx
    | cons y ys ih =>
      intro hq x hx
      cases hq with
      | cons a b =>
        rcases List.mem_cons.mp hx with rfl | hx
        · exact a
        · exact ih b x hx
  exact key xs q x hx
/-- a dict, frozen or live -/
def dcV (S : Sto) : Dv → Option (List Dv × List Dv)
  | .dct ks vs => some (ks, vs)
  | .ref n => match S[n]? with
    | some (.dct ks vs) => some (ks, vs)
    | _ => none
  | _ => none
theorem dcV_at {c : Cf} (r : Rst c H io S) {w : Dv} {v : V} {ks vs : List Dv} (d : Dn c H io S w v) (h : dcV S w = some (ks, vs)) : ∃ a xs us, v = .ref a ∧ H a = some (DctO a xs) ∧ nks ks = some (xs.map (·.1)) ∧ Dns c H io S ks (xs.map fun x => V.ref x.2.1) ∧ Vals us (xs.map (·.2.2)) ∧ Dns c H io S vs us := by
  cases w with
  | dct k2 v2 =>
    cases h
    obtain ⟨a, xs, us, e, h1, _, _, q⟩ := d
    exact ⟨a, xs, us, e, h1, q⟩
  | ref n =>
    obtain ⟨a, e, hn⟩ := d
    have h' : (match S[n]? with | some (.dct ks vs) => some (ks, vs) | _ => none) = some (ks, vs) := h
    cases hs : S[n]? with
    | none => rw [hs] at h'; cases h'
    | some o =>
      rw [hs] at h'
      cases o with
      | dct k2 v2 =>
        cases h'
        obtain ⟨b, u, hb, hu, xs, us, rfl, q⟩ := r.fit n _ hs (fun z => nomatch z)
        rw [hn] at hb; cases hb
        exact ⟨a, xs, us, e, hu, q⟩
      | _ => cases h'
  | _ => cases h
theorem valD_at {c : Cf} {ks vs : List Dv} {k : NestedKey} {w : Dv} : ∀ {xs : List Ent} {us : List V}, nks ks = some (xs.map (·.1)) → Vals us (xs.map (·.2.2)) → Dns c H io S vs us → valD ks vs k = some w → ∃ p v, atKey xs k = some p ∧ RelV v p.2 ∧ Dn c H io S w v := by
  intro xs us hk hv hd h
  unfold valD at h
  rw [hk] at h
  have key : ∀ (xs : List Ent) (us : List V) (vs : List Dv), Vals us (xs.map (·.2.2)) → Dns c H io S vs us → (((xs.map (·.1)).zip vs).find? fun p => decide (p.1 = k)).map (·.2) = some w → ∃ p v, atKey xs k = some p ∧ RelV v p.2 ∧ Dn c H io S w v := by
    intro xs
    induction xs with
    | nil => intro us vs _ _ h; simp at h
    | cons x xs ih =>
      intro us vs hv hd h
      cases hv with
      | cons r t =>
        rename_i v us'
        cases vs with
        | nil =>
          have e : v :: us' = [] := hd
          cases e
        | cons w2 vs2 =>
          obtain ⟨v', ur, e, d1, d2⟩ := hd
          cases e
          rw [List.map_cons, List.zip_cons_cons, List.find?_cons] at h
          by_cases q : x.1 = k
          · rw [show decide (x.1 = k) = true from decide_eq_true q] at h
            have e : w2 = w := by simpa using h
            subst e
            exact ⟨x.2, v, by unfold atKey; rw [List.find?_cons, show decide (x.1 = k) = true from decide_eq_true q]; rfl, r, d1⟩
          · rw [show decide (x.1 = k) = false from decide_eq_false q] at h
            obtain ⟨p, v2, h1, h2⟩ := ih us' vs2 t d2 h
            exact ⟨p, v2, by unfold atKey at h1 ⊢; rw [List.find?_cons, show decide (x.1 = k) = false from decide_eq_false q]; exact h1, h2⟩
  exact key xs us vs hv hd h
/-- a key that is a tuple, nested to depth 8 at most -/
def tky : Dv → Option NestedKey
  | .tup ws => match nk (.tup ws) with
    | some k => if k.depth ≤ 8 then some k else none
    | none => none
  | _ => none
theorem tky_at (I : Inv X pins σ H s) {w : Dv} {v : V} {u : Value} {k : NestedKey} (d : Dn ⟨X.K, hd⟩ H io S w v) (ru : RelV v u) (h : tky w = some k) : ∃ b, v = .ref b ∧ u = .ref b ∧ NestedIs s.heap k (.ref b) ∧ k.depth ≤ 8 := by
  cases w with
  | tup ws =>
    have h' : (match nk (.tup ws) with | some k => if k.depth ≤ 8 then some k else none | none => none) = some k := h
    cases h2 : nk (.tup ws) with
    | none => rw [h2] at h'; cases h'
    | some k2 =>
      rw [h2] at h'
      have h'' : (if k2.depth ≤ 8 then some k2 else none) = some k := h'
      by_cases h3 : k2.depth ≤ 8
      · rw [if_pos h3] at h''
        cases h''
        have q := dn_nk I _ v u k d ru h2
        obtain ⟨a, xs, rfl, _⟩ := d
        cases ru
        exact ⟨a, rfl, rfl, q, h3⟩
      · rw [if_neg h3] at h''; cases h''
  | _ => cases h
/-- a[b], a dict too -/
def ixA (x y : Dv) : M Dv := fun S => match dcV S x with
  | some (ks, vs) => match tky y with
    | some k => match valD ks vs k with
      | some w => some (w, S)
      | none => none
    | none => none
  | none => ixD x y S
theorem ix_a (hP : IW.P = X.prog) (hw : IW.w = X.w) (hu : X.A.units + 64 < cLine) : IxR X (rD2 X.K ixA) := by
  rintro value slice pins s σ H x y v u Q I rx ry ⟨hd, wx, wy, S, io, w, S', r, dx, dy, hm, hq⟩ hs
  unfold ixA at hm
  split at hm
  · rename_i ks vs hx
    split at hm
    · rename_i k hk
      split at hm
      · rename_i w' hv
        cases hm
        obtain ⟨a, xs, us, rfl, hH, n1, n2, n3, n4⟩ := dcV_at r dx hx
        obtain ⟨b, rfl, rfl, hkb, h8⟩ := tky_at I dy ry hk
        obtain ⟨p, v', hp, rv, dv⟩ := valD_at n1 n3 n4 hv
        obtain ⟨hm', hz, hsm⟩ := dct_of I hP hw hH n1 n2
        cases rx
        exact tail_any hm'.typeIs PySem.F.slot_dict_getitem.lookup (wpAny_getItem_heap (knd := nestedKind X.prog X.w) (show X.A.in1.units + 8 < cLine by show X.A.units + 1 + 8 < cLine; omega) ⟨hkb, h8⟩ hm' hp ⟨v', H, I.tok _, rv, hq.self r dv⟩) hs
      · cases hm
    · cases hm
  · exact ix_d value slice pins s σ H x y v u Q I rx ry ⟨hd, wx, wy, S, io, w, S', r, dx, dy, hm, hq⟩ hs
/-- the values behind a store at a key that is there -/
def putV (js : List NestedKey) (k : NestedKey) (w : Dv) (vs : List Dv) : List Dv := List.zipWith (fun j x => if j = k then w else x) js vs
theorem putV_at {c : Cf} {k : NestedKey} {w : Dv} {v : V} {u : Value} (dw : Dn c H io S w v) (rv : RelV v u) : ∀ {xs : List Ent} {us : List V} {vs : List Dv}, Vals us (xs.map (·.2.2)) → Dns c H io S vs us →
    ∃ us', Vals us' ((xs.map (putAt k u)).map (·.2.2)) ∧ Dns c H io S (putV (xs.map (·.1)) k w vs) us'
  | [], us, vs, hv, hd => by
    cases hv
    exact ⟨[], .nil, by simp [putV, Dns]⟩
  | x :: xs, us, vs, hv, hd => by
    cases hv with
    | cons r t =>
      rename_i y us'
      cases vs with
      | nil =>
        have e : y :: us' = [] := hd
        cases e
      | cons w2 vs2 =>
        obtain ⟨v', ur, e, d1, d2⟩ := hd
        cases e
        obtain ⟨us2, h1, h2⟩ := putV_at dw rv t d2
        by_cases q : x.1 = k
        · refine ⟨v :: us2, ?_, v, us2, rfl, ?_, h2⟩
          · rw [List.map_cons, List.map_cons]
            refine .cons ?_ h1
            unfold putAt; rw [if_pos q]; exact rv
          · show Dn c H io S (if x.1 = k then w else w2) v
            rw [if_pos q]; exact dw
        · refine ⟨y :: us2, ?_, y, us2, rfl, ?_, h2⟩
          · rw [List.map_cons, List.map_cons]
            refine .cons ?_ h1
            unfold putAt; rw [if_neg q]; exact r
          · show Dn c H io S (if x.1 = k then w else w2) y
            rw [if_neg q]; exact d1
theorem valD_none {c : Cf} {ks vs : List Dv} {k : NestedKey} {xs : List Ent} {us : List V} (hk : nks ks = some (xs.map (·.1))) (hv : Vals us (xs.map (·.2.2))) (hd : Dns c H io S vs us) (h : valD ks vs k = none) : atKey xs k = none := by
  cases ha : atKey xs k with
  | none => rfl
  | some p =>
    exfalso
    have key : ∀ (xs : List Ent) (us : List V) (vs : List Dv) (p : Addr × Value), Vals us (xs.map (·.2.2)) → Dns c H io S vs us → atKey xs k = some p → (((xs.map (·.1)).zip vs).find? fun p => decide (p.1 = k)).map (·.2) ≠ none := by
      intro xs
      induction xs with
      | nil => intro us vs p _ _ ha; simp [atKey] at ha
      | cons x xs ih =>
        intro us vs p hv hd ha
        cases hv with
        | cons r t =>
          rename_i y us'
          cases vs with
          | nil =>
            have e : y :: us' = [] := hd
            cases e
          | cons w2 vs2 =>
            obtain ⟨v', ur, e, d1, d2⟩ := hd
            cases e
            rw [List.map_cons, List.zip_cons_cons, List.find?_cons]
            by_cases q : x.1 = k
            · rw [show decide (x.1 = k) = true from decide_eq_true q]; simp
            · rw [show decide (x.1 = k) = false from decide_eq_false q]
              have ha' : atKey xs k = some p := by
                unfold atKey at ha ⊢
                rw [List.find?_cons, show decide (x.1 = k) = false from decide_eq_false q] at ha
                exact ha
              exact ih us' vs2 p t d2 ha'
    unfold valD at h
    rw [hk] at h
    exact key xs us vs p hv hd ha h
theorem putAt_1 (k : NestedKey) (u : Value) (xs : List Ent) : (xs.map (putAt k u)).map (·.1) = xs.map (·.1) := by
  rw [List.map_map]
  refine List.map_congr_left fun x _ => ?_
  show (putAt k u x).1 = x.1
  unfold putAt; split <;> rfl
theorem putAt_2 (k : NestedKey) (u : Value) (xs : List Ent) : (xs.map (putAt k u)).map (fun x => V.ref x.2.1) = xs.map fun x => V.ref x.2.1 := by
  rw [List.map_map]
  refine List.map_congr_left fun x _ => ?_
  show V.ref (putAt k u x).2.1 = V.ref x.2.1
  unfold putAt; split <;> rfl
theorem nks_snoc : ∀ {ws : List Dv} {w : Dv} {ks : List NestedKey} {k : NestedKey}, nks ws = some ks → nk w = some k → nks (ws ++ [w]) = some (ks ++ [k])
  | [], w, ks, k, h, h2 => by
    cases h
    show nks [w] = some [k]
    unfold nks
    rw [h2]; rfl
  | x :: ws, w, ks, k, h, h2 => by
    obtain ⟨j, jr, rfl, h3, h4⟩ := nks_cons h
    have ih := nks_snoc h4 h2
    show nks (x :: (ws ++ [w])) = _
    unfold nks
    rw [h3, ih]; rfl
theorem vals_snoc : ∀ {vs : List V} {us : List Value} {v : V} {u : Value}, Vals vs us → RelV v u → Vals (vs ++ [v]) (us ++ [u])
  | _, _, _, _, .nil, r => .cons r .nil
  | _, _, _, _, .cons a b, r => .cons a (vals_snoc b r)
theorem tky_nk {w : Dv} {k : NestedKey} (h : tky w = some k) : nk w = some k := by
  cases w with
  | tup ws =>
    have h' : (match nk (.tup ws) with | some k => if k.depth ≤ 8 then some k else none | none => none) = some k := h
    cases h2 : nk (.tup ws) with
    | none => rw [h2] at h'; cases h'
    | some k2 =>
      rw [h2] at h'
      have h'' : (if k2.depth ≤ 8 then some k2 else none) = some k := h'
      by_cases h3 : k2.depth ≤ 8
      · rw [if_pos h3] at h''; exact h''
      · rw [if_neg h3] at h''; cases h''
  | _ => cases h
/-- o[i] = w, o a live dict -/
def putK (n : Nat) (i w : Dv) : M Unit := fun S => match S[n]? with
  | some (.dct ks vs) => match tky i, nks ks with
    | some k, some js => if ks.length < sizeLine then (if (valD ks vs k).isSome = true then some ((), S.set n (.dct ks (putV js k w vs))) else some ((), S.set n (.dct (ks ++ [i]) (vs ++ [w])))) else none
    | _, _ => none
  | _ => none
def rSetK (K : PySem.W.Frag) : V → V → V → Hp → (Hp → Prop) → Prop := fun o i v H Q => ∃ hd S io n wi w S', Rst ⟨K, hd⟩ H io S ∧ Dn ⟨K, hd⟩ H io S (.ref n) o ∧ Dn ⟨K, hd⟩ H io S wi i ∧ Dn ⟨K, hd⟩ H io S w v ∧ putK n wi w S = some ((), S') ∧
  ∀ H', Kp ⟨K, hd⟩ H io S H' io S' → Rst ⟨K, hd⟩ H' io S' → Q H'
theorem set_dct (hP : IW.P = X.prog) (hw : IW.w = X.w) (hu : X.A.units + 64 < cLine) : PSet X (rSetK X.K) := by
  rintro pins s σ H o i v ov iv u Q I ro ri rv ⟨hd, S, io, n, wi, w, S', r, d_o, di, dw, hm, hq⟩
  obtain ⟨a, rfl, ha⟩ := d_o
  cases ro
  unfold putK at hm
  split at hm
  · rename_i ks vs hs
    split at hm
    · rename_i k js hk hj
      by_cases hlen : ks.length < sizeLine
      case neg => rw [if_neg hlen] at hm; cases hm
      rw [if_pos hlen] at hm
      obtain ⟨b', y, hb', hH, xs, us, rfl, n1, n2, n3, n4⟩ := r.fit n _ hs (fun z => nomatch z)
      rw [ha] at hb'; cases hb'
      obtain ⟨b, rfl, rfl, hkb, h8⟩ := tky_at I di ri hk
      obtain ⟨hmm, hz, hsm⟩ := dct_of I hP hw hH n1 n2
      have hkl : xs.length = ks.length := by have := n2.length; simpa using this
      refine wpAny_setItem_heap (knd := nestedKind X.prog X.w) (show X.A.in1.units + 8 < cLine by show X.A.units + 1 + 8 < cLine; omega) ⟨hkb, h8⟩ hmm (fun h' hm' hs' => ?_) hz
      have hst : (storedH xs k b u).length ≤ sizeLine := by
        have := storedH_length xs k b u
        omega
      have h8' : ∀ x ∈ storedH xs k b u, x.1.depth ≤ 8 := fun x hx => by
        obtain ⟨_, _, _, _, _, _, _, hall, _⟩ := hm'
        exact (hall x hx).2
      have new : ∀ H2, ObjOk X.prog X.w H2 h' a (DctO a (storedH xs k b u)) := fun H2 => by
        obtain ⟨o', es, ep, q1, q2, q3, q4, q5, q6⟩ := hm'
        refine ⟨⟨o', es, ep, q1, q2, q3, by rw [hP, hw]; exact q4, q6, hst, hsm, h8'⟩, ⟨o', q1⟩, ?_⟩
        rintro h1 h2 ⟨o2, es2, ep2, z1, z2⟩ keep
        exact ⟨o2, es2, ep2, keep o2 z1, z2⟩
      have he : ∃ q, h'.get? a = some q := let ⟨q, _, _, hq, _⟩ := hm'; ⟨q, hq⟩
      have I' := d_write (t' := s.toks + (nestedKind X.prog X.w).draws k) I (by rw [hH]; exact True.intro) hs' he (new _)
      refine ⟨_, I', ?_⟩
      rw [n1] at hj; cases hj
      cases hvd : valD ks vs k with
      | some wv =>
        rw [hvd] at hm
        have hm2 : some ((), S.set n (.dct ks (putV (xs.map (·.1)) k w vs))) = some ((), S') := hm
        cases hm2
        obtain ⟨p, _, hp, _⟩ := valD_at n1 n3 n4 hvd
        obtain ⟨us', m1, m2⟩ := putV_at (k := k) dw rv n3 n4
        have e : storedH xs k b u = xs.map (putAt k u) := storedH_old hp b u
        have f : Fit ⟨X.K, hd⟩ H io S a (.dct ks (putV (xs.map (·.1)) k w vs)) (DctO a (storedH xs k b u)) := ⟨storedH xs k b u, us', rfl, by rw [e, putAt_1]; exact n1, by rw [e, putAt_2]; exact n2, by rw [e]; exact m1, m2⟩
        exact hq _ (Kp.putO r hs (fun z => nomatch z) (fun z => nomatch z) ha) (r.putO hs (fun z => nomatch z) ha f)
      | none =>
        rw [hvd] at hm
        have hm2 : some ((), S.set n (.dct (ks ++ [wi]) (vs ++ [w]))) = some ((), S') := hm
        cases hm2
        have hn := valD_none n1 n3 n4 hvd
        have e : storedH xs k b u = xs ++ [(k, b, u)] := storedH_new hn b u
        have f : Fit ⟨X.K, hd⟩ H io S a (.dct (ks ++ [wi]) (vs ++ [w])) (DctO a (storedH xs k b u)) := ⟨storedH xs k b u, us ++ [v], rfl, by rw [e, List.map_append]; exact nks_snoc n1 (tky_nk hk), by rw [e, List.map_append]; exact n2.append ⟨_, [], rfl, di, rfl⟩, by rw [e, List.map_append]; exact vals_snoc n3 rv, n4.append ⟨v, [], rfl, dw, rfl⟩⟩
        exact hq _ (Kp.putO r hs (fun z => nomatch z) (fun z => nomatch z) ha) (r.putO hs (fun z => nomatch z) ha f)
    · cases hm
  · cases hm
/-- {}, to be a dict whose keys are tuples -/
def newT : M Dv := fun S => some (.ref S.length, S ++ [.dct [] []])
def tNewT : TE := fun _ H Q => ∀ p, H p = none → Q (.ref p) (upd H p (DctO p []))
theorem dct_empty {P : Program} {w : World} {H : Hp} (h : Heap) (hb : sysModules < h.objs.size) : ObjOk P w H (h.push { cls := .type "dict", data := .dict #[] }) h.objs.size (DctO h.objs.size []) := by
  refine ⟨⟨_, #[], 0, Heap.get?_push_size _ rfl, ⟨rfl, rfl, rfl⟩, rfl, rfl, List.nodup_nil, Nat.zero_le _, beq_eq_false_iff_ne.mpr (Ne.symm (Nat.ne_of_lt hb)), fun _ hx => nomatch hx⟩, ⟨_, Heap.get?_push_size _ rfl⟩, ?_⟩
  rintro h1 h2 ⟨o2, es2, ep2, z1, z2⟩ keep
  exact ⟨o2, es2, ep2, keep o2 z1, z2⟩
theorem pe_newT {pos : Pos} : PE X (.Dict [] [] pos) tNewT := ⟨fun pins s σ H Q I h =>
  wpAny_Dict_empty ⟨.ref s.heap.objs.size, _, I.laid (a := s.heap.objs.size) (o := DctO s.heap.objs.size []) (t' := s.toks) (fun _ _ q => Heap.get?_push_of_some _ q) (Nat.le_refl _) (dct_empty s.heap I.big), rfl, h _ (I.hok.fresh (Nat.le_refl _))⟩⟩
theorem ed_newT {pos : Pos} : ED X (.Dict [] [] pos) (fun _ => newT) := ed_of pe_newT (by
  rintro σ H Q ⟨hd, env, S, io, w, S', r, en, hm, hq⟩ p hp
  have e : some (Dv.ref S.length, S ++ [MO.dct [] []]) = some (w, S') := hm
  cases e
  have f : Fit ⟨X.K, hd⟩ H io S p (.dct [] []) (DctO p []) := ⟨[], [], rfl, rfl, rfl, .nil, rfl⟩
  exact hq _ _ (io ++ [p]) (Kp.allocO r hp) (r.allocO hp f) ⟨p, rfl, by rw [← r.len]; simp⟩)
/-- x in d, x not in d -/
def inK (x y : Dv) : M Dv := fun S => match dcV S y with
  | some (ks, vs) => match tky x with
    | some k => some (.bl (valD ks vs k).isSome, S)
    | none => none
  | none => none
def notInK (x y : Dv) : M Dv := fun S => match dcV S y with
  | some (ks, vs) => match tky x with
    | some k => some (.bl (!(valD ks vs k).isSome), S)
    | none => none
  | none => none
theorem valD_some {c : Cf} {ks vs : List Dv} {k : NestedKey} {xs : List Ent} {us : List V} (hk : nks ks = some (xs.map (·.1))) (hv : Vals us (xs.map (·.2.2))) (hd : Dns c H io S vs us) : (valueAt (pairsH xs) k).isSome = (valD ks vs k).isSome := by
  rw [valueAt_pairsH]
  cases h : valD ks vs k with
  | none => rw [valD_none hk hv hd h]; rfl
  | some w =>
    obtain ⟨p, v, hp, _⟩ := valD_at hk hv hd h
    rw [hp]; rfl
theorem od_inK (hP : IW.P = X.prog) (hw : IW.w = X.w) (hu : X.A.units + 64 < cLine) : OD X (compareOp .In) inK := by
  rintro pins s σ H x y v u Q I rx ry ⟨hd, wx, wy, S, io, w, S', r, dx, dy, hm, hq⟩
  unfold inK at hm
  split at hm
  · rename_i ks vs hy
    split at hm
    · rename_i k hk
      cases hm
      obtain ⟨a, xs, us, rfl, hH, n1, n2, n3, n4⟩ := dcV_at r dy hy
      obtain ⟨b, rfl, rfl, hkb, h8⟩ := tky_at I dx rx hk
      obtain ⟨hmm, hz, hsm⟩ := dct_of I hP hw hH n1 n2
      cases ry
      exact in_keyed (knd := nestedKind X.prog X.w) (show X.A.in1.units + 8 < cLine by show X.A.units + 1 + 8 < cLine; omega) ⟨hkb, h8⟩ hsm ⟨xs, hmm, rfl⟩ ⟨.bl _, H, I.tok _, rfl, by rw [valD_some n1 n3 n4]; exact hq.self r rfl⟩
    · cases hm
  · cases hm
theorem od_notInK (hP : IW.P = X.prog) (hw : IW.w = X.w) (hu : X.A.units + 64 < cLine) : OD X (compareOp .NotIn) notInK := by
  rintro pins s σ H x y v u Q I rx ry ⟨hd, wx, wy, S, io, w, S', r, dx, dy, hm, hq⟩
  unfold notInK at hm
  split at hm
  · rename_i ks vs hy
    split at hm
    · rename_i k hk
      cases hm
      obtain ⟨a, xs, us, rfl, hH, n1, n2, n3, n4⟩ := dcV_at r dy hy
      obtain ⟨b, rfl, rfl, hkb, h8⟩ := tky_at I dx rx hk
      obtain ⟨hmm, hz, hsm⟩ := dct_of I hP hw hH n1 n2
      cases ry
      exact notIn_keyed (knd := nestedKind X.prog X.w) (show X.A.in1.units + 8 < cLine by show X.A.units + 1 + 8 < cLine; omega) ⟨hkb, h8⟩ hsm ⟨xs, hmm, rfl⟩ ⟨.bl _, H, I.tok _, rfl, by rw [valD_some n1 n3 n4]; exact hq.self r rfl⟩
    · cases hm
  · cases hm
/-- o[i] = .., o a live list or a live dict -/
def putA (o i w : Dv) : M Unit := match o with
  | .ref n => fun S => match S[n]? with
    | some (.dct _ _) => putK n i w S
    | _ => putG (.ref n) i w S
  | _ => M.no
theorem gd_subA {a b : Expr} {pos : Pos} {L : List Nat} {m n : En → M Dv} (hP : IW.P = X.prog) (hw : IW.w = X.w) (hu : X.A.units + 64 < cLine) (ho : ED X a m) (hi : ED X b n)
    (ha : ∀ v, assign (.Subscript a b pos) X.env v = (do
      let ov ← holding [v] (eval a X.env)
      let iv ← holding [v, ov] (eval b X.env)
      standAt pos
      holding [v, ov, iv] (setItem ov iv v)
      release [v, ov, iv] []) := by intro _; rfl) : GD X (.Subscript a b pos) L (fun w env => M.bind (m env) fun o => M.bind (n env) fun i => M.bind (putA o i w) fun _ => M.ret env) := gd_of (pg_sub (t := fun o i v H Q => rSetL o i v H Q ∨ rSetK X.K o i v H Q) ho hi (by
  intro pins s σ H o i v ov iv u Q I ro ri rv h
  rcases h with h | h
  · exact set_list pins s σ H o i v ov iv u Q I ro ri rv h
  · exact set_dct hP hw hu pins s σ H o i v ov iv u Q I ro ri rv h) ha) (by
  rintro v σ H Q ⟨hd, env, S, io, w, env', S', r, en, dw, hm, hq⟩
  obtain ⟨o, S1, h1, hm⟩ := M.bind_some hm
  obtain ⟨i, S2, h2, hm⟩ := M.bind_some hm
  obtain ⟨_, S3, h3, hm⟩ := M.bind_some hm
  obtain ⟨rfl, rfl⟩ := M.ret_some hm
  refine ⟨hd, env', S, io, o, S1, r, en, h1, fun ov H1 io1 k1 r1 d1 => ?_⟩
  refine ⟨hd, env', S1, io1, i, S2, r1, en.mono k1, h2, fun iv H2 io2 k2 r2 d2 => ?_⟩
  have d1' := Dn.mono k2 _ _ d1
  have dw' := Dn.mono (k1.trans k2) _ _ dw
  cases o with
  | ref n0 =>
    have h3' : (match S2[n0]? with | some (.dct _ _) => putK n0 i w S2 | _ => putG (.ref n0) i w S2) = some ((), S') := h3
    split at h3'
    · exact .inr ⟨hd, S2, io2, n0, i, w, S', r2, d1', d2, dw', h3', fun H' kk rr => hq _ H' io2 ((k1.trans k2).trans kk) rr (en.mono ((k1.trans k2).trans kk)) rfl⟩
    · refine .inl ?_
      cases i with
      | int k =>
        have h4 : (match stL S2 n0 with | some ws => (match ixN ws.length k with | some j => some ((), S2.set n0 (.lst (ws.set j w))) | none => none) | none => none) = some ((), S') := h3'
        split at h4
        · rename_i ws hs
          split at h4
          · rename_i j hj
            cases h4
            obtain ⟨p, rfl, hp⟩ := d1'
            obtain ⟨p', xs, hp', hH, hz, dx⟩ := r2.obj _ ws (stL_some hs)
            rw [hp] at hp'; cases hp'
            refine ⟨p, xs, _, j, rfl, d2, hH, by rw [dx.length]; exact hj, ?_⟩
            have kk : Kp ⟨X.K, hd⟩ H2 io2 S2 (upd H2 p (.lst (xs.set j v))) io2 (S2.set _ (.lst (ws.set j w))) := Kp.put r2 (stL_some hs) hp
            exact hq _ _ io2 ((k1.trans k2).trans kk) (r2.put (stL_some hs) hp (dx.set j dw') (by rw [List.length_set]; exact hz)) (en.mono ((k1.trans k2).trans kk)) rfl
          · cases h4
        · cases h4
      | _ => cases h3'
  | _ => cases h3)
/-- the receiver is a dict -/
def chkK (w : Dv) : M Unit := fun S => match dcV S w with
  | some _ => some ((), S)
  | none => none
def kmD (g : Dv → List Dv → M Dv) (m : M Dv) (n : M (List Dv)) : M Dv := M.bind m fun w => M.bind (chkK w) fun _ => M.bind n fun ws => g w ws
theorem ed_km {o e : Expr} {apos cpos : Pos} {name : Str} {id : String} {g : Dv → List Dv → M Dv} {es : List Expr} {m : En → M Dv} {n : En → M (List Dv)} (hP : IW.P = X.prog) (hw : IW.w = X.w) (slot : Slot "dict" name id) (hty : typeOf (.builtin id) = pure (.type "method_descriptor")) (hm : MtR X id (rDM X.K g)) (ho : ED X o m) (ha : AD X (e :: es) n)
    (hbase : attributeBase o name X.env (eval o X.env) = eval o X.env := by rfl)
    (hfew : ((backTo cpos (starEach (e :: es) X.env)).all (fun x => !x.1) && (backToKw cpos (keywordEach [] X.env)).all (fun x => x.1.isSome)
      && decide ((e :: es).length + ([] : List Keyword).length + (if ([] : List Keyword).isEmpty then 0 else 1) < 30)) = true := by rfl)
    (hline : (apos.endLine == cpos.line) = true := by rfl) (hs : starEach (e :: es) X.env = (false, eval e X.env) :: starEach es X.env := by rfl) (hplain : (backTo cpos (starEach es X.env)).any (·.1) = false := by rfl) :
    ED X (.Call (.Attribute o name apos) (e :: es) [] cpos) (fun env => kmD g (m env) (n env)) := by
  refine ⟨fun pins s σ H Q I ⟨hd, env, S, io, w, S', r, en, hrun, hq⟩ => ?_⟩
  obtain ⟨x, S1, h1, hrun⟩ := M.bind_some hrun
  obtain ⟨_, S1', h1', hrun⟩ := M.bind_some hrun
  obtain ⟨ws, S2, h2, hrun2⟩ := M.bind_some hrun
  refine wpAny_Call_method_late hbase hfew hline rfl (thn (ho.run pins s σ H (fun v H1 => ∃ io1, Kp ⟨X.K, hd⟩ H io S H1 io1 S1 ∧ Rst ⟨X.K, hd⟩ H1 io1 S1 ∧ Dn ⟨X.K, hd⟩ H1 io1 S1 x v) I ⟨hd, env, S, io, x, S1, r, en, h1, fun v H1 io1 k1 r1 d1 => ⟨io1, k1, r1, d1⟩⟩) fun v s1 ⟨xv, H1, I1, rx1, io1, k1, r1, d1⟩ => ?_)
  unfold chkK at h1'
  split at h1'
  case h_2 => cases h1'
  rename_i kv hx
  cases h1'
  obtain ⟨a, xs, us, rfl, hH, n1, n2, n3, n4⟩ := dcV_at r1 d1 hx
  obtain ⟨hmm, hz, hsm⟩ := dct_of I1 hP hw hH n1 n2
  obtain rfl : v = Value.ref a := rx1
  refine ⟨"dict", id, PySem.F.plainAttrs_dict, slot, hty, hmm.typeIs, fun b q => ?_, ?_⟩
  · cases q
    obtain ⟨ob, _, _, q1, q2, _⟩ := hmm
    exact ⟨ob, q1, q2.2.1⟩
  have hA := ha.run cpos pins s1 σ H1 (fun vs H2 => ∃ io2, Kp ⟨X.K, hd⟩ H1 io1 S1 H2 io2 S2 ∧ Rst ⟨X.K, hd⟩ H2 io2 S2 ∧ Dns ⟨X.K, hd⟩ H2 io2 S2 ws vs) I1 ⟨hd, env, S1, io1, ws, S2, r1, en.mono k1, h2, fun vs H2 io2 k2 r2 d2 => ⟨io2, k2, r2, d2⟩⟩
  rw [hs] at hA ⊢
  refine Calls.callWith_builtin (by show (false || (backTo cpos (starEach es X.env)).any (·.1)) = false; rw [hplain] <;> rfl) (Calls.evalArgs_plain ?_)
  exact thn hA fun us2 s2 ⟨vs, H2, I2, rv2, io2, k2, r2, d2⟩ => hm pins s2 σ H2 (.ref a) vs (.ref a) us2 Q I2 rfl rv2 ⟨hd, S2, io2, x, ws, w, S', r2, Dn.mono k2 _ _ d1, d2, hrun2, hq.after (k1.trans k2)⟩
/-- d.get(k, x) -/
def getK (o : Dv) (ws : List Dv) : M Dv := fun S => match dcV S o, ws with
  | some (ks, vs), [i, x] => match tky i with
    | some k => some ((valD ks vs k).getD x, S)
    | none => none
  | _, _ => none
theorem mt_get (hP : IW.P = X.prog) (hw : IW.w = X.w) (hu : X.A.units + 64 < cLine) : MtR X "dict.get" (rDM X.K getK) := by
  rintro pins s σ H x xs v us Q I rx rv ⟨hd, S, io, wx, ws, w, S', r, dx, d, hm, hq⟩
  unfold getK at hm
  split at hm
  · rename_i ks vs i z hx
    split at hm
    · rename_i k hk
      cases hm
      obtain ⟨a, ent, us2, rfl, hH, n1, n2, n3, n4⟩ := dcV_at r dx hx
      obtain ⟨hmm, hz, hsm⟩ := dct_of I hP hw hH n1 n2
      obtain ⟨v1, vr, rfl, d1, d2⟩ := d
      obtain ⟨v2, vr2, rfl, d3, d4⟩ := d2
      have e4 : vr2 = [] := d4
      subst e4
      obtain ⟨u1, ur, rfl, r1, r2⟩ : ∃ u ur, us = u :: ur ∧ RelV v1 u ∧ Vals [v2] ur := by
        cases rv with
        | cons a b => exact ⟨_, _, rfl, a, b⟩
      obtain ⟨u2, rfl, r3⟩ : ∃ u, ur = [u] ∧ RelV v2 u := by
        cases r2 with
        | cons a b => cases b; exact ⟨_, rfl, a⟩
      obtain ⟨b, rfl, rfl, hkb, h8⟩ := tky_at I d1 r1 hk
      cases rx
      refine getOr_keyed (knd := nestedKind X.prog X.w) (show X.A.in1.units + 8 < cLine by show X.A.units + 1 + 8 < cLine; omega) ⟨hkb, h8⟩ hsm ⟨ent, hmm, rfl⟩ ?_
      rw [valueAt_pairsH]
      cases hv : valD ks vs k with
      | none =>
        rw [hv] at hq
        rw [valD_none n1 n3 n4 hv]
        exact ⟨v2, H, I.tok _, r3, hq.self r d3⟩
      | some w2 =>
        rw [hv] at hq
        obtain ⟨p, v', hp, rv', dv⟩ := valD_at n1 n3 n4 hv
        rw [hp]
        exact ⟨v', H, I.tok _, rv', hq.self r dv⟩
    · cases hm
  · cases hm
end
end DD
namespace DD
open PySem PySem.Spec PyProof.Rows L2
variable [IW : HasW]
/-! ## in, over lists and tuples of data -/
mutual
theorem py_plain : ∀ w : Dv, (py w).plain = true
  | .non => by simp [py, PyData.plain]
  | .bl _ => by simp [py, PyData.plain]
  | .int _ => by simp [py, PyData.plain]
  | .str _ => by simp [py, PyData.plain]
  | .tup ws => by simp [py, PyData.plain, pys_plain ws]
  | .lst ws => by simp [py, PyData.plain, pys_plain ws]
  | .kls ws => by simp [py, PyData.plain, pys_plain ws]
  | .ref _ => by simp [py, PyData.plain]
  | .ty _ => by simp [py, PyData.plain]
  | .fx _ => by simp [py, PyData.plain]
  | .dct _ _ => by simp [py, PyData.plain]
  | .dck _ _ => by simp [py, PyData.plain]
  | .ob _ _ _ => by simp [py, PyData.plain]
  | .sti _ => by simp [py, PyData.plain]
  | .cl _ => by simp [py, PyData.plain]
  | .stt _ => by simp [py, PyData.plain]
theorem pys_plain : ∀ ws : List Dv, PyData.plainAll (pys ws) = true
  | [] => by simp [pys, PyData.plainAll]
  | w :: ws => by simp [pys, PyData.plainAll, py_plain w, pys_plain ws]
end
def isIn (x : PyData) : PyData → Option Bool
  | .list xs => some (xs.any fun e => PyData.eqv e x)
  | .tuple xs => some (xs.any fun e => PyData.eqv e x)
  | _ => none
def inS (x y : Dv) : M Dv := fun S => match res S x, res S y with
  | some p, some q => if (py p).depth ≤ 60 then match isIn (py p) (py q) with
    | some b => some (.bl b, S)
    | none => none
    else none
  | _, _ => none
def notInS (x y : Dv) : M Dv := fun S => match res S x, res S y with
  | some p, some q => if (py p).depth ≤ 60 then match isIn (py p) (py q) with
    | some b => some (.bl (!b), S)
    | none => none
    else none
  | _, _ => none
section
variable {X : Cx}
theorem od_inS (hu : X.A.units + 64 < cLine) : OD X (compareOp .In) inS := by
  rintro pins s σ H x y v u Q I rx ry ⟨hd, wx, wy, S, io, w, S', r, dx, dy, hm, hq⟩
  unfold inS at hm
  split at hm
  · rename_i p q h1 h2
    split at hm
    · rename_i hdp
      split at hm
      · rename_i b hb
        cases hm
        obtain ⟨as, r1⟩ := Dp.reads I _ _ _ (res_dp r dx h1) rx
        obtain ⟨bs, r2⟩ := Dp.reads I _ _ _ (res_dp r dy h2) ry
        have pq := py_plain q
        have pp := py_plain p
        have fin : EP X pins σ Q (.bool b) s := ⟨.bl b, H, I, rfl, hq.self r rfl⟩
        generalize py q = dq at r2 hb pq
        cases dq with
        | list xs =>
          cases hb
          exact SeqAt.in_list_data r2 r1 (by simpa [PyData.plain] using pq) pp (by have := Nat.min_le_right (PyData.depthAll xs) (py p).depth; omega) fin
        | tuple xs =>
          cases hb
          exact SeqAt.in_tuple_data r2 r1 (by simpa [PyData.plain] using pq) pp (by have := Nat.min_le_right (PyData.depthAll xs) (py p).depth; omega) fin
        | _ => cases hb
      · cases hm
    · cases hm
  · cases hm
theorem od_notInS (hu : X.A.units + 64 < cLine) : OD X (compareOp .NotIn) notInS := by
  rintro pins s σ H x y v u Q I rx ry ⟨hd, wx, wy, S, io, w, S', r, dx, dy, hm, hq⟩
  unfold notInS at hm
  split at hm
  · rename_i p q h1 h2
    split at hm
    · rename_i hdp
      split at hm
      · rename_i b hb
        cases hm
        obtain ⟨as, r1⟩ := Dp.reads I _ _ _ (res_dp r dx h1) rx
        obtain ⟨bs, r2⟩ := Dp.reads I _ _ _ (res_dp r dy h2) ry
        have pq := py_plain q
        have pp := py_plain p
        have fin : EP X pins σ Q (.bool (!b)) s := ⟨.bl (!b), H, I, rfl, hq.self r rfl⟩
        generalize py q = dq at r2 hb pq
        cases dq with
        | list xs =>
          cases hb
          exact SeqAt.notIn_list_data r2 r1 (by simpa [PyData.plain] using pq) pp (by have := Nat.min_le_right (PyData.depthAll xs) (py p).depth; omega) fin
        | tuple xs =>
          cases hb
          exact SeqAt.notIn_tuple_data r2 r1 (by simpa [PyData.plain] using pq) pp (by have := Nat.min_le_right (PyData.depthAll xs) (py p).depth; omega) fin
        | _ => cases hb
      · cases hm
    · cases hm
  · cases hm
/-- in, a dict too -/
def inA (x y : Dv) : M Dv := fun S => match dcV S y with
  | some _ => inK x y S
  | none => inS x y S
def notInA (x y : Dv) : M Dv := fun S => match dcV S y with
  | some _ => notInK x y S
  | none => notInS x y S
theorem od_inA (hP : IW.P = X.prog) (hw : IW.w = X.w) (hu : X.A.units + 64 < cLine) : OD X (compareOp .In) inA := by
  rintro pins s σ H x y v u Q I rx ry ⟨hd, wx, wy, S, io, w, S', r, dx, dy, hm, hq⟩
  unfold inA at hm
  split at hm
  · exact od_inK hP hw hu pins s σ H x y v u Q I rx ry ⟨hd, wx, wy, S, io, w, S', r, dx, dy, hm, hq⟩
  · exact od_inS hu pins s σ H x y v u Q I rx ry ⟨hd, wx, wy, S, io, w, S', r, dx, dy, hm, hq⟩
theorem od_notInA (hP : IW.P = X.prog) (hw : IW.w = X.w) (hu : X.A.units + 64 < cLine) : OD X (compareOp .NotIn) notInA := by
  rintro pins s σ H x y v u Q I rx ry ⟨hd, wx, wy, S, io, w, S', r, dx, dy, hm, hq⟩
  unfold notInA at hm
  split at hm
  · exact od_notInK hP hw hu pins s σ H x y v u Q I rx ry ⟨hd, wx, wy, S, io, w, S', r, dx, dy, hm, hq⟩
  · exact od_notInS hu pins s σ H x y v u Q I rx ry ⟨hd, wx, wy, S, io, w, S', r, dx, dy, hm, hq⟩
end
end DD
namespace DD
open PySem PySem.Spec PyProof.Rows L2
variable [IW : HasW]
/-! ## sets -/
def ddp {α : Type} [DecidableEq α] : List α → List α
  | [] => []
  | x :: xs => if x ∈ xs then ddp xs else x :: ddp xs
theorem ddp_mem {α : Type} [DecidableEq α] (y : α) : ∀ xs : List α, y ∈ ddp xs ↔ y ∈ xs
  | [] => Iff.rfl
  | x :: xs => by
    unfold ddp
    by_cases h : x ∈ xs
    · rw [if_pos h, ddp_mem y xs, List.mem_cons]
      exact ⟨.inr, fun z => z.elim (fun e => e ▸ h) id⟩
    · rw [if_neg h, List.mem_cons, List.mem_cons, ddp_mem y xs]
theorem ddp_nd {α : Type} [DecidableEq α] : ∀ xs : List α, (ddp xs).Nodup
  | [] => .nil
  | x :: xs => by
    unfold ddp
    by_cases h : x ∈ xs
    · rw [if_pos h]; exact ddp_nd xs
    · rw [if_neg h]
      exact List.nodup_cons.mpr ⟨fun z => h ((ddp_mem x xs).mp z), ddp_nd xs⟩
theorem ddp_len {α : Type} [DecidableEq α] : ∀ xs : List α, (ddp xs).length ≤ xs.length
  | [] => Nat.le_refl _
  | x :: xs => by
    have ih := ddp_len xs
    unfold ddp
    by_cases h : x ∈ xs
    · rw [if_pos h, List.length_cons]; omega
    · rw [if_neg h, List.length_cons, List.length_cons]; omega
/-- two ascending lists of the same members -/
theorem asc_eq {α : Type} {f : α → Int} : ∀ {xs ys : List α}, xs.Pairwise (fun x y => f x < f y) → ys.Pairwise (fun x y => f x < f y) → (∀ k, k ∈ xs ↔ k ∈ ys) → xs = ys
  | [], [], _, _, _ => rfl
  | [], y :: ys, _, _, h => nomatch (h y).mpr List.mem_cons_self
  | x :: xs, [], _, _, h => nomatch (h x).mp List.mem_cons_self
  | x :: xs, y :: ys, hx, hy, h => by
    obtain ⟨a1, a2⟩ := List.pairwise_cons.mp hx
    obtain ⟨b1, b2⟩ := List.pairwise_cons.mp hy
    have e : x = y := by
      rcases List.mem_cons.mp ((h x).mp List.mem_cons_self) with z | z
      · exact z
      · rcases List.mem_cons.mp ((h y).mpr List.mem_cons_self) with z2 | z2
        · exact z2.symm
        · have := a1 _ z2
          have := b1 _ z
          omega
    subst e
    have t : ∀ k, k ∈ xs ↔ k ∈ ys := fun k => by
      constructor
      · intro m
        rcases List.mem_cons.mp ((h k).mp (List.mem_cons_of_mem _ m)) with z | z
        · subst z; have := a1 _ m; omega
        · exact z
      · intro m
        rcases List.mem_cons.mp ((h k).mpr (List.mem_cons_of_mem _ m)) with z | z
        · subst z; have := b1 _ m; omega
        · exact z
    rw [asc_eq a2 b2 t]
theorem lt_of_nd {α : Type} {f : α → Int} (inj : ∀ x y, f x = f y → x = y) {xs : List α} (h : xs.Pairwise (fun x y => f x ≤ f y)) (nd : xs.Nodup) : xs.Pairwise (fun x y => f x < f y) := by
  refine List.Pairwise.imp (fun {x y} (q : f x ≤ f y ∧ x ≠ y) => ?_) (h.and nd)
  have : f x ≠ f y := fun e => q.2 (inj _ _ e)
  omega
theorem lt_of_ndM {α : Type} {f : α → Int} {xs : List α} (inj : ∀ x ∈ xs, ∀ y ∈ xs, f x = f y → x = y) (h : xs.Pairwise (fun x y => f x ≤ f y)) (nd : xs.Nodup) : xs.Pairwise (fun x y => f x < f y) := by
  refine List.Pairwise.imp_of_mem (fun {x y} hx hy (q : f x ≤ f y ∧ x ≠ y) => ?_) (h.and nd)
  have : f x ≠ f y := fun e => q.2 (inj _ hx _ hy e)
  omega
theorem code_inj {B : Int} : ∀ {xs ys : List Int}, xs.length = ys.length → TS.Bd B xs → TS.Bd B ys → TS.code B xs = TS.code B ys → xs = ys
  | [], [], _, _, _, _ => rfl
  | [], _ :: _, h, _, _, _ => by cases h
  | _ :: _, [], h, _, _, _ => by cases h
  | d :: r, e :: q, hl, hr, hq, h => by
    have hl' : r.length = q.length := by simpa using hl
    have hr' : TS.Bd B r := fun m hm => hr m (List.mem_cons_of_mem _ hm)
    have hq' : TS.Bd B q := fun m hm => hq m (List.mem_cons_of_mem _ hm)
    rcases Int.lt_trichotomy d e with z | z | z
    · have := TS.code_lt hl' hr' hq' z; omega
    · subst z
      have c1 := not_congr (TS.code_same (B := B) (d := d) hl')
      have c2 := not_congr (TS.code_same (B := B) (d := d) hl'.symm)
      have n1 := c1.mp (by omega)
      have n2 := c2.mp (by omega)
      rw [code_inj hl' hr' hq' (by omega)]
    · have := TS.code_lt hl'.symm hq' hr' z; omega
def intsOf : List Dv → Option (List Int)
  | [] => some []
  | .int i :: ws => match intsOf ws with
    | some ns => some (i :: ns)
    | none => none
  | _ :: _ => none
theorem intsOf_map : ∀ ns : List Int, intsOf (ns.map .int) = some ns
  | [] => rfl
  | i :: ns => by
    show (match intsOf (ns.map .int) with | some ns => some (i :: ns) | none => none) = _
    rw [intsOf_map ns]
theorem intsOf_some : ∀ {ws : List Dv} {ns : List Int}, intsOf ws = some ns → ws = ns.map .int
  | [], _, h => by cases h; rfl
  | .int i :: ws, _, h => by
    unfold intsOf at h
    split at h
    · rename_i ns' h'
      cases h
      rw [intsOf_some h']; rfl
    · cases h
  | .non :: _, _, h => by cases h
  | .bl _ :: _, _, h => by cases h
  | .str _ :: _, _, h => by cases h
  | .tup _ :: _, _, h => by cases h
  | .lst _ :: _, _, h => by cases h
  | .kls _ :: _, _, h => by cases h
  | .ref _ :: _, _, h => by cases h
  | .ty _ :: _, _, h => by cases h
  | .fx _ :: _, _, h => by cases h
  | .dct _ _ :: _, _, h => by cases h
  | .dck _ _ :: _, _, h => by cases h
  | .ob _ _ _ :: _, _, h => by cases h
  | .sti _ :: _, _, h => by cases h
  | .cl _ :: _, _, h => by cases h
  | .stt _ :: _, _, h => by cases h
section
variable {c : Cf} {H : Hp} {io : List Addr} {S : Sto}
theorem dns_ints : ∀ {ns : List Int} {vs : List V}, Dns c H io S (ns.map .int) vs → vs = ns.map V.int
  | [], vs, d => d
  | i :: ns, vs, d => by
    obtain ⟨v, vr, rfl, h1, h2⟩ := d
    have h1 : v = .int i := h1
    rw [h1, dns_ints h2]; rfl
theorem ints_dns : ∀ ns : List Int, Dns c H io S (ns.map .int) (ns.map V.int)
  | [] => rfl
  | i :: ns => ⟨_, _, rfl, rfl, ints_dns ns⟩
end
def tI (ns : List Int) : Dv := .tup (ns.map .int)
def tupsOf : List Dv → Option (List (List Int))
  | [] => some []
  | .tup us :: ws => match intsOf us, tupsOf ws with
    | some a, some b => some (a :: b)
    | _, _ => none
  | _ :: _ => none
theorem tupsOf_map : ∀ nss : List (List Int), tupsOf (nss.map tI) = some nss
  | [] => rfl
  | ns :: nss => by
    show (match intsOf (ns.map .int), tupsOf (nss.map tI) with | some a, some b => some (a :: b) | _, _ => none) = _
    rw [intsOf_map, tupsOf_map nss]
theorem tupsOf_some : ∀ {ws : List Dv} {nss : List (List Int)}, tupsOf ws = some nss → ws = nss.map tI
  | [], _, h => by cases h; rfl
  | .tup us :: ws, _, h => by
    unfold tupsOf at h
    split at h
    · rename_i a b h1 h2
      cases h
      rw [tupsOf_some h2, intsOf_some h1]; rfl
    · cases h
  | .non :: _, _, h => by cases h
  | .bl _ :: _, _, h => by cases h
  | .str _ :: _, _, h => by cases h
  | .int _ :: _, _, h => by cases h
  | .lst _ :: _, _, h => by cases h
  | .kls _ :: _, _, h => by cases h
  | .ref _ :: _, _, h => by cases h
  | .ty _ :: _, _, h => by cases h
  | .fx _ :: _, _, h => by cases h
  | .dct _ _ :: _, _, h => by cases h
  | .dck _ _ :: _, _, h => by cases h
  | .ob _ _ _ :: _, _, h => by cases h
  | .sti _ :: _, _, h => by cases h
  | .cl _ :: _, _, h => by cases h
  | .stt _ :: _, _, h => by cases h
section
variable {c : Cf} {H : Hp} {io : List Addr} {S : Sto}
theorem dns_tups : ∀ {nss : List (List Int)} {vs : List V}, Dns c H io S (nss.map tI) vs → ∃ ks : List (Addr × List Int), vs = ks.map (fun p => V.ref p.1) ∧ ks.map (·.2) = nss ∧ ∀ p ∈ ks, Tq c.K H p.1 (p.2.map V.int)
  | [], vs, d => ⟨[], d, rfl, fun p q => nomatch q⟩
  | ns :: nss, vs, d => by
    obtain ⟨v, vr, rfl, ⟨a, xs, rfl, ht, dx⟩, h2⟩ := d
    obtain ⟨ks, rfl, rfl, h3⟩ := dns_tups h2
    have e := dns_ints dx
    subst e
    refine ⟨(a, ns) :: ks, rfl, rfl, fun p q => ?_⟩
    rcases List.mem_cons.mp q with rfl | q
    · exact ht
    · exact h3 p q
theorem tups_dns : ∀ ks : List (Addr × List Int), (∀ p ∈ ks, Tq c.K H p.1 (p.2.map V.int)) → Dns c H io S ((ks.map (·.2)).map tI) (ks.map fun p => V.ref p.1)
  | [], _ => rfl
  | p :: ks, h => ⟨_, _, rfl, ⟨p.1, _, rfl, h p List.mem_cons_self, ints_dns p.2⟩, tups_dns ks fun q hq => h q (List.mem_cons_of_mem _ hq)⟩
end
end DD
namespace DD
open PySem PySem.Spec PyProof.Rows L2
section
variable {PP : Program} {ww : World} {AA : Around} {EE : Value → Shared → Prop} {st : Shared}
/-- the empty set as it is born -/
abbrev bornSet (ww : World) : Obj := { cls := .type "set", dict := none, data := .set #[] 0 (.fresh 0 0 (!ww.params.followText "set-order")) }
set_option maxHeartbeats 6400000 in
/-- set(xs), xs a list of ints -/
theorem call_setL {lst : Addr} {arr : Array Value} (zs : List Int) {Z : Value → Shared → Prop} (free : AA.handled = none) (isl : st.heap.IsList lst arr) (hin : IntsAre arr.toList zs) (few : zs.length + 1 < scanBound)
    (fin : ∀ (hp' : Heap) (tk cnt : Nat), SetR ww hp' st.heap.objs.size (fun j => decide (j ∈ zs)) cnt → (∀ b o, st.heap.get? b = some o → hp'.get? b = some o) → Z (.ref st.heap.objs.size) { st with heap := hp', toks := tk }) :
    wpAny (model PP ww) AA (call (.type "set") [.ref lst]) Z EE st := by
  have size0 : arr.size = zs.length := by have q := IntsAre.length hin; rwa [Array.length_toList] at q
  obtain ⟨c0, tl0, mro0⟩ := F.called_set.mro
  have made0 := F.called_set.made
  have sub0 := F.called_set.sub
  (refine wpAny_call (codeAny_of_tree ?_); show wpAny _ _ (callAny (.type "set") _) _ _ _)
  (refine wpAny_pure ⟨Code.quiet_builtin _ (by decide +kernel), codeAny_builtin F.entry_type_call ?_⟩; rw [Around.under_plain (weight_type_call_type "set" [.ref lst] []) rfl])
  have nt0 := F.called_set.notType
  have cc0 := F.called_set.canCreate
  have tc0 := F.typeCall_set_1 (.ref lst)
  (repeat (any_goals (first | assumption | wp_step)))
  refine codeAny_mono (code_set_led1 (.ref lst) (E := EE) (Q₁ := fun ob s1 => ob = .ref st.heap.objs.size ∧ s1 = { st with heap := st.heap.push (bornSet ww) }) ⟨rfl, rfl⟩) fun res s1 hres => ?_
  cases res with
  | error e => exact hres
  | ok flow =>
    cases flow with
    | next => exact hres.elim
    | brk => exact hres.elim
    | cont => exact hres.elim
    | ret ob =>
      obtain ⟨rfl, rfl⟩ := hres
      have atS : (st.heap.push (bornSet ww)).get? st.heap.objs.size = some (bornSet ww) := Heap.get?_push_size _ rfl
      have tyS : Shared.TypeIs { st with heap := st.heap.push (bornSet ww) } (.ref st.heap.objs.size) "set" := ⟨_, atS, rfl⟩
      have li0 := F.called_set.init.lookup
      have bi0 := F.called_set.init.bind (.ref st.heap.objs.size)
      (repeat (any_goals (first | assumption | wp_step)))
      refine codeAny_mono (codeAny_call_builtin (R := wants (fun r s2 => r = .none ∧ ∃ hp' tk cnt, s2 = { st with heap := hp', toks := tk } ∧ SetR ww hp' st.heap.objs.size (fun j => decide (j ∈ zs)) cnt ∧ (∀ b o, st.heap.get? b = some o → hp'.get? b = some o)) EE)
        F.called_set.init.plain F.entry_set_init (check_set_init_1 tyS ?_)) fun res2 s2 hres2 => ?_
      · obtain ⟨⟨xc, xd, xdat, xs⟩, atL, clL, nL, dtL⟩ := isl
        (simp only at clL dtL; subst clL; subst dtL)
        have atL' : (st.heap.push (bornSet ww)).get? lst = some { cls := .type "list", dict := xd, data := .seq arr nL, slots := xs } := Heap.get?_push_of_some _ atL
        have su1 := F.sub_list_set
        have su2 := F.sub_list_frozenset
        have nd1 : (Value.type "list" == Value.type "dict") = false := by decide
        have isl1 : (st.heap.push (bornSet ww)).IsList lst arr := ⟨_, atL', rfl, nL, rfl⟩
        (unfold Builtin.«set.__init__» noKeywords Builtin.Frozenset.updateFrom; generalize keepIter : pyIter = PIt; wp_walk; subst keepIter)
        (refine wpAny_pyIter_list isl1 ?_; refine wpAny_bind (wpAny_runValue ?_))
        have ltL : lst < st.heap.objs.size := Heap.lt_size atL
        have free3 : AA.in1.in1.in1.handled = none := by simp [free]
        have neI : lst ≠ (st.heap.push (bornSet ww)).objs.size := by (rw [Heap.size_push]; exact Nat.ne_of_lt (Nat.lt_succ_of_lt ltL))
        have outS : st.heap.objs.size ∉ [(st.heap.push (bornSet ww)).objs.size, lst] := by
          (rw [Heap.size_push]; intro z; rcases List.mem_cons.mp z with z | z)
          · exact Nat.ne_of_lt (Nat.lt_succ_self _) z
          · exact Nat.ne_of_gt ltL (List.mem_singleton.mp z)
        have vals : ∀ (i : Nat) (v : Value), arr[i]? = some v → ∃ k t, zs[i]? = some k ∧ v = .int k t := fun i v hv => by
          have hi : i < zs.length := by (rw [← size0]; exact (Array.getElem?_eq_some_iff.mp hv).1)
          obtain ⟨t, e⟩ := PyProof.Rows.IntsAre.int_at hin i v (by rw [Array.getElem?_toList]; exact hv)
          exact ⟨zs[i], t, List.getElem?_eq_getElem hi, by (rw [e, List.getD_eq_getElem?_getD, List.getElem?_eq_getElem hi]; rfl)⟩
        refine set_update_ints ((Walks.list free3 _ lst neI arr).toS) st.heap.objs.size outS zs size0 few vals (arr.size - 0) 0 _ (by omega) (Nat.zero_le _) ⟨⟨_, Heap.get?_push_size _ rfl, rfl, rfl⟩, (isl1.push _)⟩ ?begin0 ?end0
        case begin0 =>
          exact ⟨0, Nat.le_refl 0, setR_new_at (Heap.get?_push_of_some _ atS)⟩
        case end0 =>
          rintro ⟨hp', g2, d', tk', os'⟩ cnt mv _ setq
          obtain rfl : g2 = st.gens := mv.gens
          obtain rfl : d' = st.drawn := mv.drawn
          obtain rfl : os' = st.os := mv.os
          (show wpAny _ _ _ _ _ _; refine wpAny_pure ?_; show wpAny _ _ (ret Value.none) _ _ _)
          refine wpAny_pure ⟨rfl, hp', tk', cnt, rfl, setq, fun b o e => ?_⟩
          have lb : b < st.heap.objs.size := Heap.lt_size e
          refine mv.heap b o (fun z => ?_) (Heap.get?_push_of_some _ (Heap.get?_push_of_some _ e))
          rcases List.mem_cons.mp z with z | z
          · exact Nat.ne_of_lt lb z
          · have e2 := List.mem_singleton.mp z
            rw [Heap.size_push] at e2
            exact Nat.ne_of_lt (Nat.lt_succ_of_lt lb) e2
      · cases res2 with
        | error e => exact hres2
        | ok flow2 =>
          cases flow2 with
          | next => exact hres2.elim
          | brk => exact hres2.elim
          | cont => exact hres2.elim
          | ret r =>
            obtain ⟨rfl, hp', tk, cnt, rfl, setq, kp⟩ := hres2
            (repeat (any_goals (first | assumption | wp_step)))
            exact fin _ _ _ setq kp
end
end DD
namespace DD
open PySem PySem.Spec PyProof.Rows L2
variable [IW : HasW]
theorem stI_new {P : Program} {w : World} {H : Hp} {h : Heap} {a : Addr} {ns : List Int} (R : SetR IW.w h a (fun i => decide (i ∈ ns)) ns.length) : ObjOk P w H h a (StI a ns) := by
  have R' := R
  obtain ⟨o, es, ep, t, ho, _⟩ := R'
  exact ⟨R, ⟨o, ho⟩, fun h1 h2 p k => p.at k⟩
theorem setR_dd {w : World} {h : Heap} {a : Addr} {ns : List Int} {n : Nat} (R : SetR w h a (fun i => decide (i ∈ ns)) n) : SetR w h a (fun i => decide (i ∈ ddp ns)) (ddp ns).length := by
  obtain ⟨o, es, ep, t, h1, h2, h3, h4, h5, h6, h7, h8, h9, r⟩ := R
  have p : (es.toList.map keyOf).Perm (ddp ns) := (List.perm_ext_iff_of_nodup h5 (ddp_nd ns)).mpr fun k => by
    rw [← h6 k, ddp_mem]
    exact decide_eq_true_iff
  have e : es.size = (ddp ns).length := by
    rw [← p.length_eq, List.length_map, Array.length_toList]
  refine ⟨o, es, ep, t, h1, h2, h3, h4, h5, fun k => ?_, h7, h8, e, r⟩
  rw [← h6 k]
  show decide (k ∈ ddp ns) = true ↔ decide (k ∈ ns) = true
  rw [decide_eq_true_iff, decide_eq_true_iff, ddp_mem]
def setD (ws : List Dv) : M Dv := fun S => match ws with
  | [w] => match lsV S w with
    | some us => if us.length < 64 then match intsOf us with
      | some ns => some (.sti (ddp ns), S)
      | none => match tupsOf us with
        | some nss => some (.stt (ddp nss), S)
        | none => none else none
    | none => none
  | _ => none
section
variable {X : Cx}
theorem cd_set (hP : IW.P = X.prog) (hw : IW.w = X.w) (hc : X.calm = true) (hu : X.A.units + 64 < cLine) : CD X (.type "set") setD := by
  rintro pins s σ H xs us Q I rv ⟨hd, S, io, ws, w, S', r, d, hm, hq⟩
  unfold setD at hm
  split at hm
  · obtain ⟨v, rfl, dv⟩ := dns1 d
    split at hm
    · rename_i ls hs
      split at hm
      · rename_i hz
        obtain ⟨a, ys, rfl, hx, _, dx⟩ := lsV_at r dv hs
        split at hm
        · rename_i ns hn
          cases hm
          have e0 := intsOf_some hn
          subst e0
          have e1 := dns_ints dx
          subst e1
          rw [List.length_map] at hz
          obtain ⟨its, rvs, hl, _⟩ := I.list (.of hx)
          rw [Vals.ref1 rv]
          have hf : H s.heap.objs.size = none := I.hok.fresh (Nat.le_refl _)
          refine call_setL ns (I.ok.hd hc) hl.isList (by simpa using rvs.ints) (by unfold scanBound; omega) fun h' tk c R k => ?_
          have R2 := setR_dd R
          rw [← hw] at R2
          refine ⟨.ref s.heap.objs.size, upd H s.heap.objs.size (StI s.heap.objs.size (ddp ns)), I.laid (t' := tk) k (Nat.le_refl _) (stI_new R2), rfl, ?_⟩
          exact hq _ _ io (Kp.fresh hf) (r.fresh hf) ⟨_, rfl, upd_same, not_lv_fresh r hf, not_hd_fresh r hf, ddp_nd ns, by have := ddp_len ns; omega⟩
        · split at hm
          · rename_i nss hn
            cases hm
            have e0 := tupsOf_some hn
            subst e0
            obtain ⟨ks, rfl, rfl, hk⟩ := dns_tups dx
            rw [List.length_map, List.length_map] at hz
            refine cr_setOfT hc hu pins s σ H _ us Q I rv ⟨a, ks, rfl, .of hx, fun p hp => (hk p hp).sq, hz, fun b L hb hL hL2 => ?_⟩
            refine hq _ _ io (Kp.fresh hb) (r.fresh hb) ⟨b, L, rfl, by rw [hP, hw]; exact upd_same, not_lv_fresh r hb, not_hd_fresh r hb, ⟨fun k => ?_, ddp_nd _, by have := ddp_len (ks.map (·.2)); rw [List.length_map] at this; omega⟩, fun p hp => (hk p (hL p hp)).mv fun e => by rw [upd_ne (ne_of_none e hb)]; exact e⟩
            rw [ddp_mem]
            constructor
            · intro z
              obtain ⟨p, hp, e⟩ := List.mem_map.mp z
              exact List.mem_map.mpr ⟨p, hL p hp, e⟩
            · intro z
              obtain ⟨p, hp, e⟩ := List.mem_map.mp z
              rw [← e]
              exact hL2 p hp
          · cases hm
      · cases hm
    · cases hm
  · cases hm
/-- len, of sets too -/
def lenA (ws : List Dv) : M Dv := match ws with
  | [.sti ns] => M.ret (.int ns.length)
  | [.stt nss] => M.ret (.int nss.length)
  | ws => lenD ws
theorem stI_at {pins : List (Addr × Obj)} {σ : L2.St} {H : Hp} {s : Shared} {a : Addr} {ns : List Int} (hw : IW.w = X.w) (I : Inv X pins σ H s) (h : H a = some (StI a ns)) : SetR X.w s.heap a (fun i => decide (i ∈ ns)) ns.length := by
  have := (I.hok a _ h).1
  rw [← hw]; exact this
theorem stT_at {pins : List (Addr × Obj)} {σ : L2.St} {H : Hp} {s : Shared} {a : Addr} {L : List (Addr × List Int)} (hP : IW.P = X.prog) (hw : IW.w = X.w) (I : Inv X pins σ H s) (h : H a = some (SetTO IW.P IW.w a L)) : SetT0 X.prog X.w s.heap a L := by
  have := (I.hok a _ h).1
  rw [← hP, ← hw]; exact this
theorem stt_perm {P : Program} {w : World} {h : Heap} {a : Addr} {L : List (Addr × List Int)} {nss : List (List Int)} (R : SetT0 P w h a L) (m : ∀ k, k ∈ L.map (·.2) ↔ k ∈ nss) (nd : nss.Nodup) : (L.map (·.2)).Perm nss := by
  obtain ⟨es, ep, t, _, _, _, h4, _⟩ := R.ex
  exact (List.perm_ext_iff_of_nodup h4 nd).mpr m
theorem cd_lenA (hP : IW.P = X.prog) (hw : IW.w = X.w) : CD X (.builtin "len") lenA := by
  rintro pins s σ H xs us Q I rv ⟨hd, S, io, ws, w, S', r, d, hm, hq⟩
  unfold lenA at hm
  split at hm
  · rename_i ns
    obtain ⟨v, rfl, a, rfl, hH, _, _, nd, hf⟩ := dns1 d
    obtain ⟨rfl, rfl⟩ := M.ret_some hm
    rw [Vals.ref1 rv]
    obtain ⟨o, es, ep, t, h1, h2, h3, h4, h5, h6, h7, h8, h9, _⟩ := stI_at hw I hH
    refine call_len_set h1 h2 h3 h8 (by rw [h9]; omega) ⟨.int ns.length, H, I.tok _, ⟨_, by rw [h9]⟩, hq.self r rfl⟩
  · rename_i nss
    obtain ⟨v, rfl, a, L, rfl, hH, _, _, ⟨hm1, nd, hf⟩, hk⟩ := dns1 d
    obtain ⟨rfl, rfl⟩ := M.ret_some hm
    rw [Vals.ref1 rv]
    have R0 := stT_at hP hw I hH
    have pm := stt_perm R0 hm1 nd
    obtain ⟨es, ep, t, R⟩ := R0.full fun p hp => I.isT (hk p hp).sq
    obtain ⟨o, ho, hex, hdt⟩ := R.ob
    have e : es.size = nss.length := by rw [R.size, ← pm.length_eq, List.length_map]
    exact call_len_set ho hex hdt R.fits (by rw [e]; omega) ⟨.int nss.length, H, I.tok _, ⟨_, by rw [e]⟩, hq.self r rfl⟩
  · exact cd_len pins s σ H xs us Q I rv ⟨hd, S, io, _, w, S', r, d, hm, hq⟩
/-- sorted, of sets too -/
def srtI (ns : List Int) : List Int := ns.mergeSort fun i j => decide (i ≤ j)
def srtT (nss : List (List Int)) : List (List Int) := nss.mergeSort fun x y => decide (TS.code 64 x ≤ TS.code 64 y)
theorem srtI_perm (ns : List Int) : (srtI ns).Perm ns := List.mergeSort_perm _ _
theorem srtT_perm (nss : List (List Int)) : (srtT nss).Perm nss := List.mergeSort_perm _ _
theorem srtI_le (ns : List Int) : (srtI ns).Pairwise (· ≤ ·) := by
  have := List.pairwise_mergeSort (le := fun i j : Int => decide (i ≤ j)) (fun a b c h1 h2 => by simp at *; omega) (fun a b => by simp; omega) ns
  exact this.imp fun h => of_decide_eq_true h
theorem srtT_le (nss : List (List Int)) : (srtT nss).Pairwise (fun x y => TS.code 64 x ≤ TS.code 64 y) := by
  have := List.pairwise_mergeSort (le := fun x y : List Int => decide (TS.code 64 x ≤ TS.code 64 y)) (fun a b c h1 h2 => by simp at *; omega) (fun a b => by simp; omega) nss
  exact this.imp fun h => of_decide_eq_true h
/-- tuples of d numbers below 64 -/
def sameD (d : Nat) (nss : List (List Int)) : Prop := ∀ ns ∈ nss, ns.length = d ∧ TS.Bd 64 ns
def srtOk (nss : List (List Int)) : Prop := ∃ d, 1 ≤ d ∧ sameD d nss
noncomputable instance (nss : List (List Int)) : Decidable (srtOk nss) := Classical.propDecidable _
noncomputable def sortedA (ws : List Dv) : M Dv := match ws with
  | [.sti ns] => M.ret (.lst ((srtI ns).map .int))
  | [.stt nss] => fun S => if srtOk nss then some (.lst ((srtT nss).map tI), S) else none
  | [w] => fun S => match (lsV S w).bind intsOf with
    | some ns => some (.lst ((srtI ns).map .int), S)
    | none => sortedD [w] S
  | _ => M.no
theorem srtI_lt {ns : List Int} (nd : ns.Nodup) : (srtI ns).Pairwise (fun x y => x < y) := lt_of_nd (f := fun x : Int => x) (fun _ _ e => e) (srtI_le ns) ((srtI_perm ns).nodup_iff.mpr nd)
theorem run_sortS {pins : List (Addr × Obj)} {s : Shared} {σ : L2.St} {H : Hp} {us : List Value} {Q : VK} {a : Addr} {ns : List Int} (hw : IW.w = X.w) (hc : X.calm = true) (I : Inv X pins σ H s) (rv : Vals [V.ref a] us) (hH : H a = some (StI a ns)) (nd : ns.Nodup) (hf : ns.length < 64)
    (q : ∀ p, H p = none → Q (.ref p) (upd H p (.lst ((srtI ns).map V.int)))) : wpAny (model X.prog X.w) X.A (call (.builtin "sorted") us) (EP X pins σ Q) X.xe s := by
  rw [Vals.ref1 rv]
  refine sorted_set (stI_at hw I hH) (I.ok.hd hc) hf fun s' p out c ns' k g o hp hg hi asc mem hl => ?_
  have e : ns' = srtI ns := asc_eq (f := fun x : Int => x) asc (srtI_lt nd) fun k => by
    rw [mem, (srtI_perm ns).mem_iff]
    exact decide_eq_true_iff
  subst e
  have hn : H p = none := I.hok.fresh hp
  have hlen : ((srtI ns).map V.int).length ≤ sizeLine := by rw [List.length_map, hl, sizeLine_eq]; omega
  have J : Inv X pins σ (upd H p (.lst ((srtI ns).map V.int))) { s with heap := s'.heap, gens := s'.gens, drawn := s'.drawn, toks := s'.toks } :=
    I.call (ch := []) (Un.laid k hp hn) (I.hok.laid k hp ⟨hlen, out.toList, c, vals_ints hi, by simpa [seqObj] using hg⟩) (by rw [g]; exact I.bare) (fun _ z => nomatch z)
  have e : s' = { s with heap := s'.heap, gens := s'.gens, drawn := s'.drawn, toks := s'.toks } := by
    cases s'; cases s; cases o; rfl
  rw [e]
  exact ⟨.ref p, _, J, rfl, q p hn⟩
theorem cd_sortedA (hP : IW.P = X.prog) (hw : IW.w = X.w) (hc : X.calm = true) (hu : X.A.units + 64 < cLine) : CD X (.builtin "sorted") sortedA := by
  rintro pins s σ H xs us Q I rv ⟨hd, S, io, ws, w, S', r, d, hm, hq⟩
  unfold sortedA at hm
  split at hm
  · rename_i ns
    obtain ⟨v, rfl, a, rfl, hH, _, _, nd, hf⟩ := dns1 d
    obtain ⟨rfl, rfl⟩ := M.ret_some hm
    refine run_sortS hw hc I rv hH nd hf fun p hp => hq _ _ io (Kp.fresh hp) (r.fresh hp) (new_lst r hp ?_ (ints_dns _))
    rw [List.length_map, (srtI_perm ns).length_eq, sizeLine_eq]; omega
  · rename_i nss
    obtain ⟨v, rfl, a, L, rfl, hH, _, _, ⟨hm1, nd, hf⟩, hk⟩ := dns1 d
    obtain ⟨⟨dd, hd1, hs⟩, e⟩ := if_some hm
    cases e
    have pm := stt_perm (stT_at hP hw I hH) hm1 nd
    have inL : ∀ p ∈ L, p.2 ∈ nss := fun p hp => (hm1 p.2).mp (List.mem_map.mpr ⟨p, hp, rfl⟩)
    refine cr_sortedT hc pins s σ H _ us Q I rv ⟨a, L, dd, 64, rfl, by rw [← hP, ← hw]; exact hH, fun p hp => (hk p hp).sq, hd1, fun p hp => hs _ (inL p hp), fun L' p pL nd' hf' pw hp => ?_⟩
    have e : L'.map (·.2) = srtT nss := by
      have p1 : (L'.map (·.2)).Perm nss := (pL.map _).trans pm
      have inj : ∀ x ∈ nss, ∀ y ∈ nss, TS.code 64 x = TS.code 64 y → x = y := fun x hx y hy e => code_inj ((hs x hx).1.trans (hs y hy).1.symm) (hs x hx).2 (hs y hy).2 e
      refine asc_eq (f := TS.code 64) (lt_of_ndM (fun x hx y hy => inj x (p1.mem_iff.mp hx) y (p1.mem_iff.mp hy)) (by rw [List.pairwise_map]; exact pw) nd') (lt_of_ndM (fun x hx y hy => inj x ((srtT_perm nss).mem_iff.mp hx) y ((srtT_perm nss).mem_iff.mp hy)) (srtT_le nss) ((srtT_perm nss).nodup_iff.mpr nd)) fun k => ?_
      rw [p1.mem_iff, (srtT_perm nss).mem_iff]
    have hk' : ∀ q ∈ L', Tq X.K H q.1 (q.2.map V.int) := fun q hq => hk q (pL.mem_iff.mp hq)
    have dd' := tups_dns (c := ⟨X.K, hd⟩) (io := io) (S := S) L' hk'
    rw [e] at dd'
    refine hq _ _ io (Kp.fresh hp) (r.fresh hp) (new_lst r hp ?_ dd')
    rw [List.length_map, sizeLine_eq]; omega
  · rename_i wv h1 h2
    dsimp only at hm
    split at hm
    · rename_i ns hn
      cases hm
      obtain ⟨ls, hs, hi⟩ := Option.bind_eq_some_iff.mp hn
      obtain ⟨v, rfl, dv⟩ := dns1 d
      obtain ⟨a, ys, rfl, hx, hz, dx⟩ := lsV_at r dv hs
      have e0 := intsOf_some hi
      subst e0
      have e1 := dns_ints dx
      subst e1
      refine cr_sortedI pins s σ H _ us Q I rv ⟨a, ns, rfl, .of hx, fun ns' p pm pw hp => ?_⟩
      have e : ns' = srtI ns := List.Perm.eq_of_pairwise (le := fun a b : Int => a ≤ b) (fun a b _ _ h1 h2 => Int.le_antisymm h1 h2) pw (srtI_le ns) (pm.trans (srtI_perm ns).symm)
      subst e
      refine hq _ _ io (Kp.fresh hp) (r.fresh hp) (new_lst r hp ?_ (ints_dns _))
      rw [List.length_map] at hz ⊢
      rw [(srtI_perm ns).length_eq]; exact hz
    · exact cd_sorted hu pins s σ H xs us Q I rv ⟨hd, S, io, _, w, S', r, d, hm, hq⟩
  · cases hm
end
end DD
namespace DD
open PySem PySem.Spec PyProof.Rows L2
variable [IW : HasW]
/-! ## own classes -/
def tyNames : List String := ["NoneType", "bool", "int", "str", "tuple", "list", "dict", "set"]
/-- what the top has made of a class -/
structure ClF (K : PySem.W.Frag) (C : Addr) : Prop where
  cls : Cls K C
  ha : PySem.W.findIn K (.ref C) "__class__" = some (some (.builtin "object.__class__"))
  hn : PySem.W.specialIn K (.builtin "object.__class__") "__get__" = some (some (.builtin "getset_descriptor.__get__"))
  htk : PySem.W.takesIn K (.builtin "object.__class__") = some true
  hm : PySem.W.mroIn K C (.type "object") = some true
  out : ∀ T ∈ tyNames, PySem.W.kitOne K (.type T) (.ref C) = some false
  inn : ∀ T ∈ tyNames, PySem.W.kitOne K (.ref C) (.type T) = some false
/-- .. of all of them -/
structure ClsF (K : PySem.W.Frag) : Prop where
  one : ∀ n C, IW.cls n = some C → ClF K C
  two : ∀ n C m D, IW.cls n = some C → IW.cls m = some D → n ≠ m → PySem.W.kitOne K (.ref C) (.ref D) = some false
/-- a value's type: a built-in one, an own class -/
def tyA (S : Sto) : Dv → Option (String ⊕ String)
  | .non => some (.inl "NoneType")
  | .bl _ => some (.inl "bool")
  | .int _ => some (.inl "int")
  | .str _ => some (.inl "str")
  | .tup _ => some (.inl "tuple")
  | .lst _ => some (.inl "list")
  | .kls _ => some (.inl "list")
  | .dct _ _ => some (.inl "dict")
  | .dck _ _ => some (.inl "dict")
  | .sti _ => some (.inl "set")
  | .stt _ => some (.inl "set")
  | .ob cl _ _ => some (.inr cl)
  | .ref n => match S[n]? with
    | some (.lst _) => some (.inl "list")
    | some (.dct _ _) => some (.inl "dict")
    | some (.dck _ _) => some (.inl "dict")
    | some (.ob cl _ _) => some (.inr cl)
    | _ => none
  | _ => none
section
variable {X : Cx} {pins : List (Addr × Obj)} {σ : L2.St} {H : Hp} {s : Shared} {hd : List Addr} {io : List Addr} {S : Sto}
def KitAns (X : Cx) (s : Shared) (u t : Value) : Prop := ∃ P : Heap → Prop, PySem.W.KitX X.K u t P ∧ P s.heap ∧ u ≠ .builtin "__main__.__loader__#opaque"
theorem kit_dct (I : Inv X pins σ H s) {a : Addr} {xs : List Ent} (h : H a = some (DctO a xs)) : KitAns X s (.ref a) (.type "dict") := by
  obtain ⟨⟨o, es, ep, h1, h2, _⟩, _⟩ := I.hok a _ h
  exact ⟨_, PySem.W.kitx_dict, ⟨o, h1, h2.1⟩, fun z => nomatch z⟩
theorem kit_ins (I : Inv X pins σ H s) (hF : ClsF X.K) {a C dx : Addr} {fs : List (Str × V)} {n : String} (hc : IW.cls n = some C) (h : H a = some (.ins C dx fs)) : KitAns X s (.ref a) (.ref C) := by
  have c := hF.one n C hc
  exact kit_of (x := .ref a) I rfl (.base (.ins h c.cls c.ha c.hn c.htk c.hm))
theorem kit_dv (I : Inv X pins σ H s) (hF : ClsF X.K) (hw : IW.w = X.w) (r : Rst ⟨X.K, hd⟩ H io S) {w : Dv} {v : V} {u : Value} (d : Dn ⟨X.K, hd⟩ H io S w v) (ru : RelV v u) :
    (∀ T, tyA S w = some (.inl T) → KitAns X s u (.type T)) ∧ ∀ n, tyA S w = some (.inr n) → ∃ C, IW.cls n = some C ∧ KitAns X s u (.ref C) := by
  have old : ∀ T, tyN w = some T → liveOk S w = true → KitAns X s u (.type T) := fun T h hl => kit_of I ru (tyN_at r d h hl)
  cases w with
  | non => exact ⟨fun T h => (by cases h; exact old _ rfl rfl), fun n h => by cases h⟩
  | bl b => exact ⟨fun T h => (by cases h; exact old _ rfl rfl), fun n h => by cases h⟩
  | int b => exact ⟨fun T h => (by cases h; exact old _ rfl rfl), fun n h => by cases h⟩
  | str b => exact ⟨fun T h => (by cases h; exact old _ rfl rfl), fun n h => by cases h⟩
  | tup ws => exact ⟨fun T h => (by cases h; exact old _ rfl rfl), fun n h => by cases h⟩
  | lst ws => exact ⟨fun T h => (by cases h; exact old _ rfl rfl), fun n h => by cases h⟩
  | kls ws => exact ⟨fun T h => (by cases h; exact old _ rfl rfl), fun n h => by cases h⟩
  | ty n => exact ⟨fun T h => (by cases h), fun n h => by cases h⟩
  | fx n => exact ⟨fun T h => (by cases h), fun n h => by cases h⟩
  | cl n => exact ⟨fun T h => (by cases h), fun n h => by cases h⟩
  | dct ks vs =>
    obtain ⟨a, xs, us, rfl, hH, _⟩ := d
    cases ru
    exact ⟨fun T h => (by cases h; exact kit_dct I hH), fun n h => by cases h⟩
  | dck ks vs =>
    obtain ⟨a, us, rfl, hH, _⟩ := d
    exact ⟨fun T h => (by cases h; exact kit_of I ru (.base (.dK hH))), fun n h => by cases h⟩
  | sti ns =>
    obtain ⟨a, rfl, hH, _⟩ := d
    cases ru
    refine ⟨fun T h => ?_, fun n h => by cases h⟩
    cases h
    obtain ⟨o, es, ep, t, h1, h2, _⟩ := stI_at hw I hH
    exact ⟨_, PySem.W.kitx_set, ⟨o, h1, h2.1⟩, fun z => nomatch z⟩
  | stt nss =>
    obtain ⟨a, L, rfl, hH, _⟩ := d
    cases ru
    refine ⟨fun T h => ?_, fun n h => by cases h⟩
    cases h
    obtain ⟨es, ep, t, ⟨o, h1, h2, _⟩, _⟩ := ((I.hok a _ hH).1 : SetT0 IW.P IW.w s.heap a L).ex
    exact ⟨_, PySem.W.kitx_set, ⟨o, h1, h2.1⟩, fun z => nomatch z⟩
  | ob cl fs vs =>
    obtain ⟨a, C, dx, us, rfl, hc, hH, _⟩ := d
    cases ru
    exact ⟨fun T h => (by cases h), fun n h => (by cases h; exact ⟨C, hc, kit_ins I hF hc hH⟩)⟩
  | ref n =>
    obtain ⟨a, rfl, ha⟩ := d
    have gen : ∀ o, S[n]? = some o → o ≠ .gone → ∃ u0, H a = some u0 ∧ Fit ⟨X.K, hd⟩ H io S a o u0 := fun o ho hne => by
      obtain ⟨b, u0, hb, hH, f⟩ := r.fit n o ho hne
      rw [ha] at hb; cases hb
      exact ⟨u0, hH, f⟩
    have tyE : tyA S (.ref n) = (match S[n]? with | some (.lst _) => some (.inl "list") | some (.dct _ _) => some (.inl "dict") | some (.dck _ _) => some (.inl "dict") | some (.ob cl _ _) => some (.inr cl) | _ => none) := rfl
    rw [tyE]
    cases hs : S[n]? with
    | none => exact ⟨fun T h => (by cases h), fun n h => by cases h⟩
    | some o =>
      cases o with
      | lst ws =>
        obtain ⟨u0, hH, xs, rfl, _⟩ := gen _ hs (fun z => nomatch z)
        exact ⟨fun T h => (by cases h; exact kit_of I ru (.base (.lst hH))), fun n h => by cases h⟩
      | dct ks vs =>
        obtain ⟨u0, hH, xs, us, rfl, _⟩ := gen _ hs (fun z => nomatch z)
        cases ru
        exact ⟨fun T h => (by cases h; exact kit_dct I hH), fun n h => by cases h⟩
      | dck ks vs =>
        obtain ⟨u0, hH, us, rfl, _⟩ := gen _ hs (fun z => nomatch z)
        exact ⟨fun T h => (by cases h; exact kit_of I ru (.base (.dK hH))), fun n h => by cases h⟩
      | ob cl fs vs =>
        obtain ⟨u0, hH, C, dx, us, hc, rfl, _⟩ := gen _ hs (fun z => nomatch z)
        cases ru
        exact ⟨fun T h => (by cases h), fun n h => (by cases h; exact ⟨C, hc, kit_ins I hF hc hH⟩)⟩
      | gone => exact ⟨fun T h => (by cases h), fun n h => by cases h⟩
def tysIn (ts : List Dv) : Bool := ts.all fun t => match t with | .ty b => tyNames.contains b | _ => false
def isiA (ws : List Dv) : M Dv := fun S => match ws with
  | [w, .ty b] => match tyA S w with
    | some (.inl a) => match kitB a b with
      | some r => some (.bl r, S)
      | none => none
    | some (.inr _) => if b ∈ tyNames then some (.bl false, S) else none
    | none => none
  | [w, .cl n] => match tyA S w with
    | some (.inl a) => if a ∈ tyNames then some (.bl false, S) else none
    | some (.inr m) => some (.bl (decide (m = n)), S)
    | none => none
  | [w, .tup ts] => match tyA S w with
    | some (.inl a) => if allTy ts = true then match kitAnyB a ts with
      | some r => some (.bl r, S)
      | none => none else none
    | some (.inr _) => if tysIn ts = true then some (.bl false, S) else none
    | none => none
  | _ => none
theorem tysIn_any {K : PySem.W.Frag} {t : Value} (h : ∀ T ∈ tyNames, PySem.W.kitOne K t (.type T) = some false) : ∀ ts : List Dv, tysIn ts = true → PySem.W.kitAny K t (ts.filterMap fun t => match t with | .ty b => some (Value.type b) | _ => none) = some false
  | [], _ => rfl
  | w :: ts, q => by
    have q0 := List.all_eq_true.mp q
    have q1 := q0 w List.mem_cons_self
    have q2 : tysIn ts = true := List.all_eq_true.mpr fun x hx => q0 x (List.mem_cons_of_mem _ hx)
    clear q q0
    cases w with
    | ty b => exact kitAny_cons (h b (by simpa using q1)) (fun _ => tysIn_any h ts q2) (fun z => nomatch z)
    | _ => cases q1
theorem tysIn_all {ts : List Dv} (h : tysIn ts = true) : allTy ts = true := by
  refine List.all_eq_true.mpr fun t ht => ?_
  have := List.all_eq_true.mp h t ht
  cases t with
  | ty b => rfl
  | _ => cases this
theorem cls_pair {c : Cf} {ts : List Dv} : ∀ {vs : List V}, Dns c H io S ts vs → (∀ t ∈ ts, ∃ n, t = .ty n) → Paired ClsV vs (ts.filterMap fun t => match t with | .ty b => some (Value.type b) | _ => none) := by
  induction ts with
  | nil => intro vs d _; have e : vs = [] := d; subst e; exact .nil
  | cons t ts ih =>
    intro vs d hall
    obtain ⟨v, vr, rfl, h1, h2⟩ := d
    obtain ⟨n, rfl⟩ := hall t List.mem_cons_self
    have h1 : v = .ty n := h1
    subst h1
    exact .cons (.ty n) (ih h2 fun t ht => hall t (List.mem_cons_of_mem _ ht))
theorem run_isiT (I : Inv X pins σ H s) {ts : List Dv} {u t : Value} {v2 : V} {u2 : Value} {b : Bool} {Q : VK} (k : KitAns X s u t) (d2 : Dn ⟨X.K, hd⟩ H io S (.tup ts) v2) (r2 : RelV v2 u2) (hall : allTy ts = true)
    (e : PySem.W.kitAny X.K t (ts.filterMap fun t => match t with | .ty b => some (Value.type b) | _ => none) = some b) (q : Q (.bl b) H) : wpAny (model X.prog X.w) X.A (call (.builtin "isinstance") [u, u2]) (EP X pins σ Q) X.xe s := by
  obtain ⟨P, Z, p, hx⟩ := k
  obtain ⟨tp, cs, rfl, hT, dc⟩ := d2
  cases r2
  obtain ⟨its, rvs, ⟨⟨oc, od, odt, osl⟩, ho, hc, n, hdt⟩, _⟩ := I.tuple hT.sq
  simp only at hc hdt
  subst hc hdt
  have e2 := ClsV.all (cls_pair dc (allTy_of hall)) rvs
  refine PySem.W.kia_tup Z I.kIn p ho (by rw [e2]; exact e) hx fun tk => ⟨.bl b, H, I.tok tk, rfl, q⟩
theorem cd_isiA (hF : ClsF X.K) (hw : IW.w = X.w) : CD X (.builtin "isinstance") isiA := by
  rintro pins s σ H xs us Q I rv ⟨hd, S, io, ws, w, S', r, d, hm, hq⟩
  unfold isiA at hm
  split at hm
  · rename_i wv b
    obtain ⟨v, v2, rfl, dv, dv2⟩ := dns2 d
    obtain ⟨u, u2, rfl, r1, r2⟩ := vals2 rv
    obtain ⟨k1, k2⟩ := kit_dv I hF hw r dv r1
    have e2 : v2 = .ty b := dv2
    subst e2
    cases r2
    split at hm
    · rename_i a ha
      split at hm
      · rename_i rr hk
        cases hm
        obtain ⟨P, Z, p, hx⟩ := k1 a ha
        exact PySem.W.kia_one Z I.kIn p (kit_ty hk) hx fun tk => ⟨.bl rr, H, I.tok tk, rfl, hq.self r rfl⟩
      · cases hm
    · rename_i m ha
      obtain ⟨hb, e⟩ := if_some hm
      cases e
      obtain ⟨C, hc, P, Z, p, hx⟩ := k2 m ha
      exact PySem.W.kia_one Z I.kIn p ((hF.one m C hc).inn b hb) hx fun tk => ⟨.bl false, H, I.tok tk, rfl, hq.self r rfl⟩
    · cases hm
  · rename_i wv n
    obtain ⟨v, v2, rfl, dv, dv2⟩ := dns2 d
    obtain ⟨u, u2, rfl, r1, r2⟩ := vals2 rv
    obtain ⟨k1, k2⟩ := kit_dv I hF hw r dv r1
    obtain ⟨D, hD, rfl⟩ := dv2
    cases r2
    split at hm
    · rename_i a ha
      obtain ⟨hb, e⟩ := if_some hm
      cases e
      obtain ⟨P, Z, p, hx⟩ := k1 a ha
      exact PySem.W.kia_one Z I.kIn p ((hF.one n D hD).out a hb) hx fun tk => ⟨.bl false, H, I.tok tk, rfl, hq.self r rfl⟩
    · rename_i m ha
      cases hm
      obtain ⟨C, hc, P, Z, p, hx⟩ := k2 m ha
      refine PySem.W.kia_one (b := decide (m = n)) Z I.kIn p ?_ hx fun tk => ⟨.bl (decide (m = n)), H, I.tok tk, rfl, hq.self r rfl⟩
      by_cases hmn : m = n
      · subst hmn
        rw [hc] at hD; cases hD
        rw [show decide (m = m) = true from decide_eq_true rfl]
        exact if_pos (beq_self_eq_true _)
      · rw [show decide (m = n) = false from decide_eq_false hmn]
        exact hF.two m C n D hc hD hmn
    · cases hm
  · rename_i wv ts
    obtain ⟨v, v2, rfl, dv, dv2⟩ := dns2 d
    obtain ⟨u, u2, rfl, r1, r2⟩ := vals2 rv
    obtain ⟨k1, k2⟩ := kit_dv I hF hw r dv r1
    split at hm
    · rename_i a ha
      split at hm
      · rename_i hall
        split at hm
        · rename_i rr hk
          cases hm
          exact run_isiT I (k1 a ha) dv2 r2 hall (kitAnyB_at hk rfl) (hq.self r rfl)
        · cases hm
      · cases hm
    · rename_i m ha
      obtain ⟨hb, e⟩ := if_some hm
      cases e
      obtain ⟨C, hc, kk⟩ := k2 m ha
      exact run_isiT I kk dv2 r2 (tysIn_all hb) (tysIn_any (hF.one m C hc).inn ts hb) (hq.self r rfl)
    · cases hm
  · cases hm
/-! ### attributes -/
def obV (S : Sto) : Dv → Option (String × List Str × List Dv)
  | .ob cl fs vs => some (cl, fs, vs)
  | .ref n => match S[n]? with
    | some (.ob cl fs vs) => some (cl, fs, vs)
    | _ => none
  | _ => none
theorem obV_at {c : Cf} (r : Rst c H io S) {w : Dv} {v : V} {cl : String} {fs : List Str} {vs : List Dv} (d : Dn c H io S w v) (h : obV S w = some (cl, fs, vs)) :
    ∃ a C dx us, v = .ref a ∧ IW.cls cl = some C ∧ H a = some (.ins C dx (fs.zip us)) ∧ us.length = fs.length ∧ Dns c H io S vs us := by
  cases w with
  | ob c2 f2 v2 =>
    cases h
    obtain ⟨a, C, dx, us, e, hc, h1, _, _, q⟩ := d
    exact ⟨a, C, dx, us, e, hc, h1, q⟩
  | ref n =>
    obtain ⟨a, e, hn⟩ := d
    have h' : (match S[n]? with | some (.ob cl fs vs) => some (cl, fs, vs) | _ => none) = some (cl, fs, vs) := h
    cases hs : S[n]? with
    | none => rw [hs] at h'; cases h'
    | some o =>
      rw [hs] at h'
      cases o with
      | ob c2 f2 v2 =>
        cases h'
        obtain ⟨b, u, hb, hu, C, dx, us, hc, rfl, q⟩ := r.fit n _ hs (fun z => nomatch z)
        rw [hn] at hb; cases hb
        exact ⟨a, C, dx, us, e, hc, hu, q⟩
      | _ => cases h'
  | _ => cases h
theorem lk_at {c : Cf} {f : Str} {x : Dv} : ∀ {fs : List Str} {vs : List Dv} {us : List V}, Dns c H io S vs us → (fs.zip vs).lookup f = some x → ∃ u, (fs.zip us).lookup f = some u ∧ Dn c H io S x u
  | [], _, _, _, h => by cases h
  | g :: fs, [], _, _, h => by cases h
  | g :: fs, w :: vs, us, d, h => by
    obtain ⟨u, ur, rfl, d1, d2⟩ := d
    rw [List.zip_cons_cons, List.lookup_cons] at h ⊢
    cases hb : f == g with
    | true => rw [hb] at h; cases h; exact ⟨u, rfl, d1⟩
    | false => rw [hb] at h; exact lk_at d2 h
def fldD (cls : List String) (f : Str) (w : Dv) : M Dv := fun S => match obV S w with
  | some (cl, fs, vs) => if cl ∈ cls then match (fs.zip vs).lookup f with
    | some x => some (x, S)
    | none => none else none
  | none => none
variable {e o value : Expr} {f : Str} {pos pos' : Pos} {m mv : En → M Dv} {cls : List String}
theorem ed_fld (hF : ClsF X.K) (hn : ∀ cl ∈ cls, ∀ C, IW.cls cl = some C → NoAttr X.K C f) (h : ED X e m) (hb : attributeBase e f X.env (eval e X.env) = eval e X.env := by rfl) : ED X (.Attribute e f pos) (fun env => M.bind (m env) (fldD cls f)) := ed_of (pe_fld h hb) (by
  rintro σ H Q ⟨hd, env, S, io, w, S', r, en, hm, hq⟩
  obtain ⟨x, S1, h1, hm⟩ := M.bind_some hm
  refine ⟨hd, env, S, io, x, S1, r, en, h1, fun v H1 io1 k1 r1 d1 => ?_⟩
  unfold fldD at hm
  split at hm
  · rename_i cl fs vs ho
    split at hm
    · rename_i hcl
      split at hm
      · rename_i y hl
        cases hm
        obtain ⟨a, C, dx, us, rfl, hc, hH, _, du⟩ := obV_at r1 d1 ho
        obtain ⟨u, hu, dy⟩ := lk_at du hl
        exact ⟨a, C, dx, _, u, rfl, hH, (hF.one cl C hc).cls, hn cl hcl C hc, hu, hq u H1 io1 k1 r1 dy⟩
      · cases hm
    · cases hm
  · cases hm)
def setF (cls : List String) (f : Str) (o w : Dv) : M Unit := match o with
  | .ref n => fun S => match S[n]? with
    | some (.ob cl fs vs) => if cl ∈ cls ∧ f ∉ fs ∧ fs.length < 1000 ∧ vs.length = fs.length then some ((), S.set n (.ob cl (fs ++ [f]) (vs ++ [w]))) else none
    | _ => none
  | _ => M.no
theorem putF_new {f : Str} {y : V} : ∀ {fs : List Str} {us : List V}, f ∉ fs → us.length = fs.length → putF f y (fs.zip us) = (fs ++ [f]).zip (us ++ [y])
  | [], [], _, _ => rfl
  | [], _ :: _, _, h => by cases h
  | _ :: _, [], _, h => by cases h
  | g :: fs, u :: us, hn, hl => by
    have h1 : ¬ g = f := fun z => hn (by rw [z]; exact List.mem_cons_self)
    rw [List.zip_cons_cons]
    show (if g = f then (g, y) :: fs.zip us else (g, u) :: putF f y (fs.zip us)) = _
    rw [if_neg h1, putF_new (fun z => hn (List.mem_cons_of_mem _ z)) (by simpa using hl)]
    rfl
def fldS (cls : List String) (f : Str) (mo mv : M Dv) (env : En) : M Fl := M.bind mv fun w => M.bind mo fun o => M.bind (setF cls f o w) fun _ => M.ret (.nx env)
theorem sd_fld (hF : ClsF X.K) (hn : ∀ cl ∈ cls, ∀ C, IW.cls cl = some C → NoAttr X.K C f) (ho : ED X o m) (hv : ED X value mv) (hs : swapsWith value (some (.Attribute o f pos')) pos.line X.env = pure false := by rfl) :
    SD X (.Assign [.Attribute o f pos'] value pos) (fun env => fldS cls f (m env) (mv env) env) := sd_of (ps_fld ho hv hs) (by
  rintro D σ H ⟨hd, env, S, io, fl, S', r, en, hm, hq⟩
  obtain ⟨w, S1, h1, hm⟩ := M.bind_some hm
  obtain ⟨x, S2, h2, hm⟩ := M.bind_some hm
  obtain ⟨_, S3, h3, hm⟩ := M.bind_some hm
  obtain ⟨rfl, rfl⟩ := M.ret_some hm
  refine ⟨hd, env, S, io, w, S1, r, en, h1, fun v H1 io1 k1 r1 d1 => ?_⟩
  refine ⟨hd, env, S1, io1, x, S2, r1, en.mono k1, h2, fun u H2 io2 k2 r2 d2 => ?_⟩
  unfold setF at h3
  split at h3
  · rename_i n
    split at h3
    · rename_i cl fs vs hsn
      obtain ⟨⟨hcl, hf, hl, hlv⟩, e3⟩ := if_some h3
      cases e3
      obtain ⟨a, rfl, ha⟩ := d2
      obtain ⟨b, u0, hb, hH, C, dx, us, hc, rfl, hlu, du⟩ := r2.fit n _ hsn (fun z => nomatch z)
      rw [ha] at hb; cases hb
      refine ⟨a, C, dx, _, rfl, hH, (hF.one cl C hc).cls, hn cl hcl C hc, by rw [List.length_zip, hlu, Nat.min_self]; exact hl, ?_⟩
      rw [putF_new hf hlu]
      have dw := Dn.mono k2 _ _ d1
      have f' : Fit ⟨X.K, hd⟩ H2 io2 S2 a (.ob cl (fs ++ [f]) (vs ++ [w])) (.ins C dx ((fs ++ [f]).zip (us ++ [v]))) := ⟨C, dx, us ++ [v], hc, rfl, by simp [hlu], du.append ⟨v, [], rfl, dw, rfl⟩⟩
      have kk : Kp ⟨X.K, hd⟩ H2 io2 S2 (upd H2 a (.ins C dx ((fs ++ [f]).zip (us ++ [v])))) io2 (S2.set n (.ob cl (fs ++ [f]) (vs ++ [w]))) := Kp.putO r2 hsn (fun z => nomatch z) (fun z => nomatch z) ha
      exact hq σ _ io2 ((k1.trans k2).trans kk) (r2.putO hsn (fun z => nomatch z) ha f') (en.mono ((k1.trans k2).trans kk))
    · cases h3
  · cases h3)
end
end DD
namespace DD
open PySem PySem.Spec PyProof.Rows L2
variable [IW : HasW]
/-! ## making an instance -/
theorem make_guards {A : Around} {C : Addr} {us : List Value} {kw : List (Str × Value)} (h : A.guards = some []) : (A.under (.builtin "type.__call__" ⟨.ref C :: us, kw⟩)).guards = some [] := by
  first | exact h | (simpa [Around.under, Code.isGuard, guardIds] using h)
section
variable {X : Cx} {k : Nat} {f C : Addr} {fd : FuncData} {ps : List Str} {sp : Sp} {x : Str} {p pos : Pos} {e : Expr} {es : List Expr} {t : TA}
theorem run_makeG {pins : List (Addr × Obj)} {σ : L2.St} {H : Hp} {s : Shared} {Q : VK} {us : List Value} {vs : List V} (MK : Mk X.K C f) (F : FnG X.prog X.w X.K X.mg X.base k f fd ps sp) (hr : Room (k + 1) X.A) (hgd : X.A.guards = some []) (hb : Binds X.K fd ps [])
    (I : Inv X pins σ H s) (rel : Vals vs us) (want : ∀ y dx, H y = none → H dx = none → dx ≠ y → sp (.ref y :: vs) (upd (upd H dx (.own y)) y (.ins C dx [])) (fun v H2 => v = .non ∧ Q (.ref y) H2) E0) :
    wpAny (model X.prog X.w) X.A (call (.ref C) us) (EP X pins σ Q) X.xe s := by
  have ask := want (s.heap.objs.size + 1) s.heap.objs.size (I.hok.fresh (Nat.le_succ _)) (I.hok.fresh (Nat.le_refl _)) (Nat.ne_of_lt (Nat.lt_succ_self _))
  have J := Inv.made (C := C) I
  have rel2 : Vals (V.ref (s.heap.objs.size + 1) :: vs) (Value.ref (s.heap.objs.size + 1) :: us) := .cons rfl rel
  have many : (Value.ref (s.heap.objs.size + 1) :: us).length = ps.length := rel2.length.symm.trans (F.len _ _ _ _ ask)
  have bnd := hb _ (Value.ref (s.heap.objs.size + 1) :: us) J.kIn (by rw [List.append_nil]; exact many)
  rw [List.append_nil] at bnd
  refine wpAny_call (make_map (f := f) I.kIn MK.makes MK.init (beq_iff_eq.mp MK.fn) (codeAny_mono (F.run _ X.stack _ _ ⟨Value.ref (s.heap.objs.size + 1) :: us, []⟩ _ _ _ E0 (hr.make C us []) (make_guards hgd) (J.env0.make C us []) bnd rel2 ask) fun res s' back => ?_))
  match res, back with
  | .error _, back => exact back.elim
  | .ok .next, back => exact back.elim
  | .ok .brk, back => exact back.elim
  | .ok .cont, back => exact back.elim
  | .ok (.ret u), back =>
    obtain ⟨v, H', J2, rv, ev, q3⟩ := J.after back
    subst ev
    exact ⟨rv, ⟨V.ref (s.heap.objs.size + 1), H', J2, rfl, q3⟩⟩
def tMakeG (C : Addr) (sp : Sp) (t : TA) : TE := fun σ H Q => t σ H fun vs H1 => ∀ y dx, H1 y = none → H1 dx = none → dx ≠ y → sp (.ref y :: vs) (upd (upd H1 dx (.own y)) y (.ins C dx [])) (fun v H2 => v = .non ∧ Q (.ref y) H2) E0
theorem pe_makeG (MK : Mk X.K C f) (F : FnG X.prog X.w X.K X.mg X.base k f fd ps sp) (hr : Room (k + 1) X.A) (hgd : X.A.guards = some []) (hg : Gl X x) (hm : X.mg x = some (.ref C)) (hb : Binds X.K fd ps [])
    (ha : PA X (e :: es) t) (hdb : (x == ("__debug__" : Str)) = false := by decide) (he : starEach (e :: es) X.env = (false, eval e X.env) :: starEach es X.env := by rfl) (hpl : (backTo pos (starEach es X.env)).any (·.1) = false := by rfl) :
    PE X (.Call (.Name x p) (e :: es) [] pos) (tMakeG C sp t) := by
  constructor
  intro pins s σ H Q I h
  apply wpAny_Call_Name_kw
  refine ld_glob I hg hm ?_ hdb
  refine PySem.W.callWith_K (h₀ := X.base) I.ok.mod.kin MK.kp ?_ he hpl
  refine thn (ha.run pos pins s σ H _ I h) ?_
  rintro us s1 ⟨vs, H1, I1, r, q⟩
  exact ⟨I1.kIn, run_makeG MK F hr hgd hb I1 r q⟩
def mkD (cl : String) (n : Nat) (g : List Dv → M Dv) (m : M (List Dv)) : M Dv := M.bind m fun ws S => if ws.length = n then match g (.ref S.length :: ws) (S ++ [.ob cl [] []]) with
  | some (.non, S') => some (.ref S.length, S')
  | _ => none else none
theorem ed_mk {cl : String} {n : Nat} {g : List Dv → M Dv} {m : En → M (List Dv)} (hcl : IW.cls cl = some C) (MK : Mk X.K C f) (F : FnG X.prog X.w X.K X.mg X.base k f fd ps (spD X.K (n + 1) g)) (hr : Room (k + 1) X.A) (hgd : X.A.guards = some []) (hg : Gl X x) (hm : X.mg x = some (.ref C)) (hb : Binds X.K fd ps [])
    (ha : AD X (e :: es) m) (hdb : (x == ("__debug__" : Str)) = false := by decide) (he : starEach (e :: es) X.env = (false, eval e X.env) :: starEach es X.env := by rfl) (hpl : (backTo pos (starEach es X.env)).any (·.1) = false := by rfl) :
    ED X (.Call (.Name x p) (e :: es) [] pos) (fun env => mkD cl n g (m env)) := ed_of (pe_makeG MK F hr hgd hg hm hb ha hdb he hpl) (by
  rintro σ H Q ⟨hd, env, S, io, w, S', r, en, hm, hq⟩
  obtain ⟨ws, S1, h1, hm⟩ := M.bind_some hm
  split at hm
  · rename_i hl
    split at hm
    · rename_i S2 hrun
      cases hm
      refine ⟨hd, env, S, io, ws, S1, r, en, h1, fun vs H1 io1 k1 r1 d1 y dx hy hdx hne => ?_⟩
      have ky : Kp ⟨X.K, hd⟩ H1 io1 S1 (upd H1 dx (.own y)) io1 S1 := Kp.fresh hdx
      have ry := r1.fresh (o := .own y) hdx
      have hy' : upd H1 dx (.own y) y = none := by rw [upd_ne (Ne.symm hne)]; exact hy
      have fy : Fit ⟨X.K, hd⟩ (upd H1 dx (.own y)) io1 S1 y (.ob cl [] []) (.ins C dx []) := ⟨C, dx, [], hcl, rfl, rfl, rfl⟩
      have k2 : Kp ⟨X.K, hd⟩ (upd H1 dx (.own y)) io1 S1 (upd (upd H1 dx (.own y)) y (.ins C dx [])) (io1 ++ [y]) (S1 ++ [.ob cl [] []]) := Kp.allocO ry hy'
      have r2 := ry.allocO hy' fy
      have dself : Dn ⟨X.K, hd⟩ (upd (upd H1 dx (.own y)) y (.ins C dx [])) (io1 ++ [y]) (S1 ++ [.ob cl [] []]) (.ref S1.length) (.ref y) := ⟨y, rfl, by rw [← r1.len]; simp⟩
      refine ⟨hd, S1 ++ [.ob cl [] []], io1 ++ [y], .ref S1.length :: ws, .non, S', r2, ⟨_, vs, rfl, dself, Dns.mono (ky.trans k2) _ _ d1⟩, by rw [List.length_cons, hl], hrun, fun v H3 io3 k3 r3 d3 => ⟨d3, ?_⟩⟩
      exact hq _ H3 io3 (((k1.trans ky).trans k2).trans k3) r3 (Dn.mono k3 _ _ dself)
    · cases hm
  · cases hm)
end
/-! ## str(n), index, the repr of {} -/
section
variable {X : Cx}
def strD (ws : List Dv) : M Dv := match ws with
  | [.int i] => fun S => if i.natAbs.log2 < 1920 then some (.str (toString i), S) else none
  | _ => M.no
theorem cd_str : CD X (.type "str") strD := by
  rintro pins s σ H xs us Q I rv ⟨hd, S, io, ws, w, S', r, d, hm, hq⟩
  unfold strD at hm
  split at hm
  · obtain ⟨v, rfl, dv⟩ := dns1 d
    obtain ⟨hz, e⟩ := if_some hm
    cases e
    exact call_str_int pins s σ H _ us Q I rv ⟨_, by rw [show v = .int _ from dv], hz, hq.self r rfl⟩
  · cases hm
def reprA (ws : List Dv) : M Dv := fun S => match ws with
  | [.dct [] []] => some (.str "{}", S)
  | ws => reprD ws S
theorem cd_reprA (hg : X.A.guards = some []) (hu : X.A.units + 64 < cLine) : CD X (.builtin "repr") reprA := by
  rintro pins s σ H xs us Q I rv ⟨hd, S, io, ws, w, S', r, d, hm, hq⟩
  unfold reprA at hm
  split at hm
  · obtain ⟨v, rfl, a, xs, us2, rfl, hH, _, _, hn, _⟩ := dns1 d
    cases hm
    have hx : xs = [] := by
      have : some ([] : List NestedKey) = some (xs.map (·.1)) := hn
      cases xs with
      | nil => rfl
      | cons a b => cases this
    subst hx
    rw [Vals.ref1 rv]
    obtain ⟨⟨o, es, ep, h1, h2, h3, h4, _, _, h7, _⟩, _⟩ := I.hok a _ hH
    have h4 : es.toList = [] := h4
    have rd : Reads s.heap (.ref a) (.dict []) (a :: [] ++ []) := .dict h1 h2.1 h3 (by rw [h4]; exact .nil) (by rw [h4]; exact .nil)
    refine repr_of_reads' rd (by simp [PyData.showable, PyData.showableKv]) (fun _ z => ?_) hg ?_ (fun _ _ z => z) (fun h' u tk k => ⟨.str "{}", H, I.kept (t' := tk) k, ?_, hq.self r rfl⟩) ?_
    · have z : sysModules = a := by simpa using z
      subst z
      rw [beq_self_eq_true] at h7; cases h7
    · have : (PyData.dict []).depth ≤ 1 := by simp [PyData.depth, PyData.depthKv]
      omega
    · exact ⟨u, rfl⟩
    · show (PyData.dict []).shown.length ≤ sizeLine
      rw [sizeLine_eq]
      have : (PyData.dict []).shown.length = 2 := by rfl
      omega
  · exact cd_repr hg hu pins s σ H xs us Q I rv ⟨hd, S, io, _, w, S', r, d, hm, hq⟩
/-- l.index(x), x in l: data -/
def idxD (o : Dv) (ws : List Dv) : M Dv := fun S => match ws with
  | [w] => match lsV S o, res S w with
    | some us, some p => if Dv.pus us = true ∧ (py p).depth ≤ 60 ∧ us.length ≤ sizeLine ∧ (us.any fun u => PyData.eqv (py u) (py p)) = true then some (.int ((us.map fun u => PyData.eqv (py u) (py p)).idxOf true : Nat), S) else none
    | _, _ => none
  | _ => none
theorem mt_index (hu : X.A.units + 64 < cLine) : MtR X "list.index" (rDM X.K idxD) := by
  rintro pins s σ H x xs v us Q I rx rv ⟨hd, S, io, wx, ws, w, S', r, dx, d, hm, hq⟩
  unfold idxD at hm
  split at hm
  · rename_i wv
    obtain ⟨v1, rfl, dv⟩ := dns1 d
    split at hm
    · rename_i ls pp hs hp
      obtain ⟨⟨hpu, hdp, hz, hany⟩, e⟩ := if_some hm
      cases e
      obtain ⟨a, ys, rfl, hH, _, dy⟩ := lsV_at r dx hs
      cases rx
      obtain ⟨u1, rfl, r1⟩ := vals1 rv
      obtain ⟨its, rvs, hl, _⟩ := I.list (.of hH)
      obtain ⟨bs, rp⟩ := Dp.reads I _ _ _ (res_dp r dv hp) r1
      have e1 := each_reads I hpu (each_dns dy rvs)
      have hlen : its.length = ls.length := by rw [← rvs.length, dy.length]
      have each : ∀ {ls : List Dv} {its : List Value}, PySem.W.EachIs (fun v u => ∃ as, Reads s.heap v (py u) as) its ls → ∀ j (h1 : j < its.length) (h2 : j < ls.length), ∃ as, Reads s.heap its[j] (py ls[j]) as := by
        intro ls its q
        induction q with
        | nil => intro j h1; exact absurd h1 (Nat.not_lt_zero _)
        | cons a _ ih =>
          intro j h1 h2
          cases j with
          | zero => exact a
          | succ j => exact ih j (by simpa using h1) (by simpa using h2)
      refine PySem.SeqAt.call_list_index (ks := ls.map fun u => PyData.eqv (py u) (py pp)) (k := true) hl.isList ⟨by rw [List.length_map]; exact hlen, fun j h1 h2 => ?_⟩ (by rw [List.length_map]; exact hz) ?_ ⟨.int _, H, I.tok _, ⟨_, rfl⟩, hq.self r rfl⟩
      · rw [List.length_map] at h2
        obtain ⟨as, ra⟩ := each e1 j h1 h2
        have q := SeqAt.eqAt_plain _ _ X.A.in1 s _ _ _ _ ra rp (py_plain _) (py_plain _)
        rw [List.getElem_map]
        have e2 : decide (PyData.eqv (py ls[j]) (py pp) = true) = PyData.eqv (py ls[j]) (py pp) := by
          cases PyData.eqv (py ls[j]) (py pp) <;> rfl
        rw [e2]
        refine q ?_
        have := Nat.min_le_right (py ls[j]).depth (py pp).depth
        show X.A.units + 1 + _ < _
        omega
      · obtain ⟨u, hu1, hu2⟩ := List.any_eq_true.mp hany
        exact List.mem_map.mpr ⟨u, hu1, hu2⟩
    · cases hm
  · cases hm
end
end DD
namespace DD
open PySem PySem.Spec PyProof.Rows L2
/-! ## enumerate(t), t a tuple -/
set_option maxHeartbeats 2000000 in
theorem meets_enum1 {val : Value} {ob : Obj} {Hh : Heap → Prop} (B : Begins val ob Hh) :
    Meets (Builtin.«enumerate.__new__» ⟨[.type "enumerate", val], []⟩) (fun _ Res st => Hh st.heap ∧ Res (.ok (.ret (.ref (st.heap.push ob).objs.size))) { st with heap := (st.heap.push ob).push { cls := .type "enumerate", data := .fields #[.none, .bool false, .ref st.heap.objs.size, rawInt 0, .none, .none] } }) :=
  .of_wp fun prog ww Ar Res st h => by
    obtain ⟨hp, gs, dr, tk, os⟩ := st
    obtain ⟨h1, h⟩ := h
    have sb := sub_enumerate
    have byIter : ∀ {A' : Around} {E : Value → Shared → Prop} {Q : Value → Shared → Prop}, Q (.ref hp.objs.size) ⟨hp.push ob, gs, dr, tk, os⟩ → wpAny (model prog ww) A' (pyIter val) Q E ⟨hp, gs, dr, tk, os⟩ := fun q => B.iter prog ww _ _ ⟨hp, gs, dr, tk, os⟩ _ h1 q
    wp_walk using byIter
    (refine wpAny_stack_any fun stk => wpAny_pure ?_; split)
    · rename_i cc _ _ _ _ _
      cases (cc == Value.type "enumerate") <;> (wp_walk using byIter; exact ⟨_, rfl, h⟩)
    · wp_walk using byIter
      exact ⟨_, rfl, h⟩
section
variable {prog : Program} {ww : World} {Ar : Around} {EE : Value → Shared → Prop} {st : Shared}
theorem call_enumT {tp : Addr} {arr : Array Value} {Q : Value → Shared → Prop} (isT : st.heap.IsTuple tp arr)
    (fin : ∀ h', IsEnum h' (st.heap.objs.size + 1) st.heap.objs.size 0 .none → h'.IsTupleIter st.heap.objs.size tp 0 → (∀ b o, st.heap.get? b = some o → h'.get? b = some o) → Q (.ref (st.heap.objs.size + 1)) { st with heap := h' }) :
    wpAny (model prog ww) Ar (call (.type "enumerate") [.ref tp]) Q EE st := by
  refine callType_new F.called_enumerate (by decide) (F.typeCall_enumerate_1 _) (F.newCall_enumerate_1 _) (fun ob => F.args_object_init_2 ob _) F.entry_enumerate_new (meets_enum1 (begins_tuple tp arr)) ⟨isT, ?_⟩
  have hz : (st.heap.push { cls := .type "tuple_iterator", data := .fields #[.ref tp, .int 0 0] }).objs.size = st.heap.objs.size + 1 := Heap.size_push ..
  have isE : IsEnum ((st.heap.push { cls := .type "tuple_iterator", data := .fields #[.ref tp, .int 0 0] }).push { cls := .type "enumerate", data := .fields #[.none, .bool false, .ref st.heap.objs.size, rawInt 0, .none, .none] }) (st.heap.objs.size + 1) st.heap.objs.size 0 .none := by
    have q := Heap.get?_push_size (st.heap.push { cls := .type "tuple_iterator", data := .fields #[.ref tp, .int 0 0] }) (o := { cls := .type "enumerate", data := .fields #[.none, .bool false, .ref st.heap.objs.size, rawInt 0, .none, .none] }) rfl
    rw [hz] at q; exact q
  (show _ ∧ _; rw [hz])
  exact ⟨⟨_, isE, rfl⟩, fin _ isE ⟨_, Heap.get?_push_of_some _ (Heap.get?_push_size _ rfl), rfl, rfl⟩ fun b o z => Heap.get?_push_of_some _ (Heap.get?_push_of_some _ z)⟩
end
/-- the items of the tuple at a, each in a new pair -/
def Iet (K : PySem.W.Frag) (a : Addr) : It :=
  ⟨fun i H => ∃ (xs : List V) (x : V), SqT K H a xs ∧ xs[i]? = some x, fun i H v H' => ∃ T x, v = .ref T ∧ H T = none ∧ H' = upd H T (.tup [.int (i : Nat), x]) ∧ ∀ xs, SqT K H a xs → xs[i]? = some x, fun i H => ∃ xs : List V, SqT K H a xs ∧ xs.length = i⟩
theorem turn_enumT {P : Program} {w : World} {K : PySem.W.Frag} {elts : List Expr} {kk : Nat} {tpos : Pos} (a e it : Addr) (hit0 : a ≠ it) :
    Turn P w K (.Tuple elts kk tpos) (Iet K a) [e, it] e (fun i h => (∃ old, IsEnum h e it ((i : Nat) : Int) old) ∧ h.IsTupleIter it a i ∧ e ≠ it ∧ e ≠ a) where
  mem := List.mem_cons_self
  obj := fun i h q b hb => by
    obtain ⟨⟨old, he⟩, ⟨o, ho, hc, hd⟩, _⟩ := q
    rcases List.mem_cons.mp hb with z | z
    · rw [z]; exact ⟨_, he, fun v q => nomatch q⟩
    · rw [List.mem_singleton.mp z]; exact ⟨o, ho, fun v q => by rw [hd] at q; cases q⟩
  keep := fun i h h' q k => by
    obtain ⟨⟨old, he⟩, hi, hne, hea⟩ := q
    exact ⟨⟨old, k e List.mem_cons_self _ he⟩, hi.at fun o z => k it (List.mem_cons_of_mem _ List.mem_cons_self) o z, hne, hea⟩
  item := by
    rintro X rfl rfl rfl hc i pins s σ H E I hf ⟨⟨old, he⟩, hi, hne, hea⟩ ⟨xs, x, hq, hx⟩
    obtain ⟨its, rv, pl, hz⟩ := I.tuple hq
    obtain ⟨u, hu, ru⟩ := rv.get hx
    have hel : e < s.heap.objs.size := Heap.lt_size he
    have hil : it < s.heap.objs.size := by obtain ⟨_, q, _⟩ := hi; exact Heap.lt_size q
    have hd3 : X.A.in1.handled = none := I.ok.hd hc
    have hef : e ∉ [it, a] := fun z => by
      rcases List.mem_cons.mp z with z | z
      · exact hne z
      · exact hea (List.mem_singleton.mp z)
    have W := GoesN.enumFrom (elts := elts) (x1 := kk) (pos := tpos) 0 (Draws.tuple (prog := X.prog) (w := X.w) hd3 it a hit0 its.toArray) e hne hef List.mem_cons_self
    have e0 : (0 : Int) + (i : Int) = (i : Int) := Int.zero_add _
    have hlt : i < its.toArray.size := by
      have := (List.getElem?_eq_some_iff.mp hu).1
      simpa using this
    refine W.goes i s _ E hlt ⟨⟨old, by rw [e0]; exact he⟩, hi, pl⟩ fun v h' tk hY hst hk _ => ?_
    obtain ⟨T, t, y, rfl, hT, hy, hIs⟩ := hY
    obtain ⟨⟨old', he'⟩, hi', _⟩ := hst
    have ey : y = u := by
      have hy : its.toArray[i]? = some y := hy
      simp at hy hu
      rw [hu] at hy; exact (Option.some.inj hy).symm
    subst ey
    rw [e0] at hIs
    have new : ObjOk X.prog X.w (upd H T (.tup [.int (i : Nat), x])) h' T (.tup [.int (i : Nat), x]) := ⟨by show 2 ≤ sizeLine; decide, [.int i t, y], .cons ⟨_, rfl⟩ (.cons ru .nil), hIs⟩
    have J : Inv X pins σ (upd H T (.tup [.int (i : Nat), x])) { s with heap := h', toks := tk } := I.turnedNew (ch := [e, it]) hk hf hT new
    refine ⟨.ref T, _, J, rfl, ⟨T, x, rfl, I.hok.fresh hT, rfl, fun ys hys => ?_⟩, ⟨⟨old', ?_⟩, hi', hne, hea⟩, fun b hb => ?_⟩
    · rw [I.tuple_inj hys hq]
      exact hx
    · have e1 : (0 : Int) + ((i + 1 : Nat) : Int) = ((i + 1 : Nat) : Int) := Int.zero_add _
      rw [e1] at he'; exact he'
    · have hb' : b < s.heap.objs.size := by
        rcases List.mem_cons.mp hb with z | z
        · rw [z]; exact hel
        · rw [List.mem_singleton.mp z]; exact hil
      rw [upd_ne (Nat.ne_of_lt (Nat.lt_of_lt_of_le hb' hT))]
      exact (hf b hb).1
  done := by
    rintro X rfl rfl rfl hc i pins s σ H E I hf ⟨⟨old, he⟩, hi, hne, hea⟩ ⟨xs, hq, hx⟩
    obtain ⟨its, rv, pl, hz⟩ := I.tuple hq
    have hd3 : X.A.in1.handled = none := I.ok.hd hc
    have hef : e ∉ [it, a] := fun z => by
      rcases List.mem_cons.mp z with z | z
      · exact hne z
      · exact hea (List.mem_singleton.mp z)
    have W := GoesN.enumFrom (elts := elts) (x1 := kk) (pos := tpos) 0 (Draws.tuple (prog := X.prog) (w := X.w) hd3 it a hit0 its.toArray) e hne hef List.mem_cons_self
    have e0 : (0 : Int) + (i : Int) = (i : Int) := Int.zero_add _
    have hn : its.toArray.size = i := by rw [List.size_toArray, ← rv.length]; exact hx
    rw [hn] at W
    exact W.stops s _ E ⟨⟨old, by rw [e0]; exact he⟩, hi, pl⟩ fun h' tk hk _ => I.turnedL (ch := [e, it]) hk hf
  self := fun A i s Q E q h => let ⟨⟨_, he⟩, _⟩ := q; wpAny_pyIter_enum he h
def iEnumT (K : PySem.W.Frag) (ta : TA) : TI := fun σ H R => ta σ H fun vs H1 => ∃ a xs, vs = [.ref a] ∧ SqT K H1 a xs ∧ R (Iet K a) H1
theorem pi_enumT {X : Cx} {e : Expr} {ta : TA} {p pos tpos : Pos} {elts : List Expr} {kk : Nat} (hg : Gl X "enumerate") (hm : X.mg "enumerate" = none) (ha : PA X [e] ta) (hs : starEach [e] X.env = [(false, eval e X.env)] := by rfl) :
    PI X (.Tuple elts kk tpos) (.Call (.Name "enumerate" p) [e] [] pos) (iEnumT X.K ta) := by
  constructor
  intro pins s σ H R I h
  refine Call_ (ld_blt I hg hm boot_enumerate ?_)
  refine PyProof.Rows.callWith_type1 ?_ hs rfl
  refine thn (ha.run pos pins s σ H _ I h) ?_
  rintro us s1 ⟨vs, H1, I1, r1, a, xs, rfl, hq, q⟩
  rw [Vals.ref1 r1]
  obtain ⟨its, rv, pl, hz⟩ := I1.tuple hq
  refine call_enumT (tp := a) (arr := its.toArray) pl fun h' he hit hk => wpAny_pyIter_enum he ?_
  have I2 : Inv X pins σ H1 { s1 with heap := h' } := I1.kept (t' := s1.toks) hk
  have al : a < s1.heap.objs.size := by obtain ⟨o, ho, _⟩ := pl; exact Heap.lt_size ho
  refine ⟨s1.heap.objs.size + 1, [s1.heap.objs.size + 1, s1.heap.objs.size], _, _, H1, rfl, I2, turn_enumT a (s1.heap.objs.size + 1) s1.heap.objs.size (Nat.ne_of_lt al), ⟨⟨.none, he⟩, hit, Nat.succ_ne_self _, Nat.ne_of_gt (Nat.lt_succ_of_lt al)⟩, fun b hb => ?_, q⟩
  have hle : s1.heap.objs.size ≤ b := by
    rcases List.mem_cons.mp hb with z | z
    · rw [z]; exact Nat.le_succ _
    · rw [List.mem_singleton.mp z]; exact Nat.le_refl _
  exact I1.fpOk hle (I1.hok.fresh hle)
/-- a list or a tuple -/
def iEnumLT (K : PySem.W.Frag) (ta : TA) : TI := fun σ H R => ta σ H fun vs H1 => ∃ a, vs = [.ref a] ∧ (((∃ xs, SqL K H1 a xs) ∧ R (Ite K a) H1) ∨ ((∃ xs, SqT K H1 a xs) ∧ R (Iet K a) H1))
theorem pi_enumLT {X : Cx} {e : Expr} {ta : TA} {p pos tpos : Pos} {elts : List Expr} {kk : Nat} (hg : Gl X "enumerate") (hm : X.mg "enumerate" = none) (ha : PA X [e] ta) (hs : starEach [e] X.env = [(false, eval e X.env)] := by rfl) :
    PI X (.Tuple elts kk tpos) (.Call (.Name "enumerate" p) [e] [] pos) (iEnumLT X.K ta) := by
  constructor
  intro pins s σ H R I h
  refine Call_ (ld_blt I hg hm boot_enumerate ?_)
  refine PyProof.Rows.callWith_type1 ?_ hs rfl
  refine thn (ha.run pos pins s σ H _ I h) ?_
  rintro us s1 ⟨vs, H1, I1, r1, a, rfl, q⟩
  rw [Vals.ref1 r1]
  rcases q with ⟨⟨xs, hq⟩, q⟩ | ⟨⟨xs, hq⟩, q⟩
  · obtain ⟨its, rv, p', hz⟩ := I1.list hq
    refine call_enumerate_list p'.isList fun h' he hit hsz hk => wpAny_pyIter_enum he ?_
    have I2 : Inv X pins σ H1 { s1 with heap := h' } := I1.kept (t' := s1.toks) hk
    refine ⟨s1.heap.objs.size + 1, [s1.heap.objs.size + 1, s1.heap.objs.size], _, _, H1, rfl, I2, turn_enum a (s1.heap.objs.size + 1) s1.heap.objs.size, ⟨⟨.none, he⟩, hit, Nat.succ_ne_self _⟩, fun b hb => ?_, q⟩
    have e' : b = s1.heap.objs.size + 1 ∨ b = s1.heap.objs.size := by simpa using hb
    have hle : s1.heap.objs.size ≤ b := by
      rcases e' with z | z
      · rw [z]; exact Nat.le_add_right _ _
      · rw [z]; exact Nat.le_refl _
    exact I1.fpOk hle (I1.hok.fresh hle)
  · obtain ⟨its, rv, pl, hz⟩ := I1.tuple hq
    refine call_enumT (tp := a) (arr := its.toArray) pl fun h' he hit hk => wpAny_pyIter_enum he ?_
    have I2 : Inv X pins σ H1 { s1 with heap := h' } := I1.kept (t' := s1.toks) hk
    have al : a < s1.heap.objs.size := by obtain ⟨o, ho, _⟩ := pl; exact Heap.lt_size ho
    refine ⟨s1.heap.objs.size + 1, [s1.heap.objs.size + 1, s1.heap.objs.size], _, _, H1, rfl, I2, turn_enumT a (s1.heap.objs.size + 1) s1.heap.objs.size (Nat.ne_of_lt al), ⟨⟨.none, he⟩, hit, Nat.succ_ne_self _, Nat.ne_of_gt (Nat.lt_succ_of_lt al)⟩, fun b hb => ?_, q⟩
    have hle : s1.heap.objs.size ≤ b := by
      rcases List.mem_cons.mp hb with z | z
      · rw [z]; exact Nat.le_succ _
      · rw [List.mem_singleton.mp z]; exact Nat.le_refl _
    exact I1.fpOk hle (I1.hok.fresh hle)
variable [IW : HasW]
def enmW (ws : List Dv) : List Dv := (List.range ws.length).zipWith (fun i w => Dv.tup [.int (i : Nat), w]) ws
def enmD (m : M (List Dv)) : M Sr := M.bind m fun ws S => match ws with
  | [.tup us] => some (⟨enmW us, none⟩, S)
  | [.lst us] => some (⟨enmW us, none⟩, S)
  | _ => none
theorem enmW_len (ws : List Dv) : (enmW ws).length = ws.length := by simp [enmW]
theorem wk_enum {K : PySem.W.Frag} {hd0 : List Addr} {H0 : Hp} {io0 : List Addr} {S0 : Sto} {a : Addr} {xs : List V} {ws : List Dv} (hl : xs.length = ws.length) (hs : Tq K H0 a xs) : Wk K hd0 H0 io0 S0 (Iet K a) ⟨enmW ws, none⟩ ws xs where
  stop := fun hd H io S i k r ck h => ⟨xs, (k.tup _ _ hs).sq, by have : i = (enmW ws).length := h; rw [enmW_len] at this; omega⟩
  go := fun hd H io S i k r ck h => by
    have : i < (enmW ws).length := h
    rw [enmW_len] at this
    exact ⟨xs, xs[i]'(by omega), (k.tup _ _ hs).sq, by simp [show i < xs.length by omega]⟩
  yld := fun hd H io S i x H' k r ck d hi y => by
    obtain ⟨T, x0, rfl, hT, rfl, hx⟩ := y
    have hi' : i < ws.length := by have : i < (enmW ws).length := hi; rw [enmW_len] at this; exact this
    obtain ⟨w, hw, dw⟩ := d.getV (hx xs (k.tup _ _ hs).sq)
    refine ⟨.tup [.int (i : Nat), w], ?_, .inr ⟨T, _, hT, rfl⟩, ⟨T, _, rfl, .inl upd_same, ?_⟩⟩
    · show (enmW ws)[i]? = _
      unfold enmW
      rw [List.getElem?_zipWith]
      have e1 : (List.range ws.length)[i]? = some i := by simp [hi']
      rw [e1, hw]
    · exact ⟨_, _, rfl, rfl, x0, _, rfl, Dn.mono (Kp.fresh hT) _ _ dw, rfl⟩
theorem wk_enumL {K : PySem.W.Frag} {hd0 : List Addr} {H0 : Hp} {io0 : List Addr} {S0 : Sto} {a : Addr} {xs : List V} {ws : List Dv} (hl : xs.length = ws.length) (hs : ∀ H io S, Kp ⟨K, hd0⟩ H0 io0 S0 H io S → SqL K H a xs) : Wk K hd0 H0 io0 S0 (Ite K a) ⟨enmW ws, none⟩ ws xs where
  stop := fun hd H io S i k r ck h => ⟨xs, hs _ _ _ k, by have : i = (enmW ws).length := h; rw [enmW_len] at this; omega⟩
  go := fun hd H io S i k r ck h => by
    have : i < (enmW ws).length := h
    rw [enmW_len] at this
    exact ⟨xs, xs[i]'(by omega), hs _ _ _ k, by simp [show i < xs.length by omega]⟩
  yld := fun hd H io S i x H' k r ck d hi y => by
    obtain ⟨T, x0, rfl, hT, rfl, hx⟩ := y
    have hi' : i < ws.length := by have : i < (enmW ws).length := hi; rw [enmW_len] at this; exact this
    obtain ⟨w, hw, dw⟩ := d.getV (hx xs (hs _ _ _ k))
    refine ⟨.tup [.int (i : Nat), w], ?_, .inr ⟨T, _, hT, rfl⟩, ⟨T, _, rfl, .inl upd_same, ?_⟩⟩
    · show (enmW ws)[i]? = _
      unfold enmW
      rw [List.getElem?_zipWith]
      have e1 : (List.range ws.length)[i]? = some i := by simp [hi']
      rw [e1, hw]
    · exact ⟨_, _, rfl, rfl, x0, _, rfl, Dn.mono (Kp.fresh hT) _ _ dw, rfl⟩
theorem id_enm {X : Cx} {e : Expr} {p pos tpos : Pos} {elts : List Expr} {kk : Nat} {m : En → M (List Dv)} (hg : Gl X "enumerate") (hm : X.mg "enumerate" = none) (ha : AD X [e] m) (hs : starEach [e] X.env = [(false, eval e X.env)] := by rfl) :
    ID X (.Tuple elts kk tpos) (.Call (.Name "enumerate" p) [e] [] pos) (fun env => enmD (m env)) := id_of (pi_enumLT hg hm ha hs) (by
  rintro σ H R ⟨hd, env, S, io, sr, S', r, en, hm, hq⟩
  obtain ⟨ws, S1, h1, hm⟩ := M.bind_some hm
  split at hm
  · cases hm
    refine ⟨hd, env, S, io, _, _, r, en, h1, fun vs H1 io1 k1 r1 d1 => ?_⟩
    obtain ⟨v, rfl, a, xs, rfl, hx, dx⟩ := dns1 d1
    exact ⟨a, rfl, .inr ⟨⟨xs, hx.sq⟩, hq H1 io1 _ _ xs k1 r1 dx (wk_enum dx.length hx)⟩⟩
  · cases hm
    refine ⟨hd, env, S, io, _, _, r, en, h1, fun vs H1 io1 k1 r1 d1 => ?_⟩
    obtain ⟨v, rfl, a, xs, rfl, hx, hl, _, _, dx⟩ := dns1 d1
    exact ⟨a, rfl, .inl ⟨⟨xs, .of hx⟩, hq H1 io1 _ _ xs k1 r1 dx (wk_enumL dx.length fun H io S k => .of (k.keep _ _ hx hl).1)⟩⟩
  · cases hm)
end DD
namespace DD
open PySem PySem.Spec PyProof.Rows L2
section
variable [IW : HasW]
section
variable {X : Cx} {a b : Expr} {pos : Pos}
theorem ed_ixA {m n : En → M Dv} (hP : IW.P = X.prog) (hw : IW.w = X.w) (hu : X.A.units + 64 < cLine) (ha : ED X a m) (hb : ED X b n) (hs : PlainIx b := by exact fun _ _ => rfl) : ED X (.Subscript a b pos) (fun env => M.bind (m env) fun x => M.bind (n env) fun y => ixA x y) := ed_of (pe_ix (ix_a hP hw hu) ha hb hs) (by
  rintro σ H Q ⟨hd, env, S, io, w, S', r, en, hm, hq⟩
  obtain ⟨x, S1, h1, hm⟩ := M.bind_some hm
  obtain ⟨y, S2, h2, hm⟩ := M.bind_some hm
  refine ⟨hd, env, S, io, x, S1, r, en, h1, fun v H1 io1 k1 r1 d1 => ?_⟩
  refine ⟨hd, env, S1, io1, y, S2, r1, en.mono k1, h2, fun u H2 io2 k2 r2 d2 => ?_⟩
  exact ⟨hd, x, y, S2, io2, w, S', r2, Dn.mono k2 _ _ d1, d2, hm, hq.after (k1.trans k2)⟩)
end
theorem na_nil {K : PySem.W.Frag} {f : Str} : ∀ c ∈ ([] : List String), ∀ D, IW.cls c = some D → NoAttr K D f := fun c h => nomatch h
theorem na_cons {K : PySem.W.Frag} {f : Str} {cl : String} {C : Addr} {cls : List String} (h : IW.cls cl = some C) (n : NoAttr K C f) (r : ∀ c ∈ cls, ∀ D, IW.cls c = some D → NoAttr K D f) : ∀ c ∈ cl :: cls, ∀ D, IW.cls c = some D → NoAttr K D f := by
  intro c hc D hD
  rcases List.mem_cons.mp hc with rfl | hc
  · rw [h] at hD; cases hD; exact n
  · exact r c hc D hD
/-- a tuple of the written part -/
theorem kt_tup {K : PySem.W.Frag} {a : Addr} {dd : Option Addr} {its : Array Value} {n : Nat} {sl : Array (Option Value)} {ws : List Dv} {xs : List V} (l : K.lookup a = some ⟨.type "tuple", dd, .seq its n, sl⟩) (hz : its.size ≤ sizeLine) (r : Vals xs its.toList)
    (d : ∀ hd H io S, Dns ⟨K, hd⟩ H io S ws xs) : ∀ hd H io S, Dn ⟨K, hd⟩ H io S (.tup ws) (.ref a) := fun hd H io S => ⟨a, xs, rfl, .inr (.inr ⟨_, its, n, l, rfl, rfl, hz, r⟩), d hd H io S⟩
theorem kd_int {K : PySem.W.Frag} {i : Int} : ∀ hd H io S, Dn ⟨K, hd⟩ H io S (.int i) (.int i) := fun _ _ _ _ => rfl
theorem ks_nil {K : PySem.W.Frag} : ∀ hd H io S, Dns ⟨K, hd⟩ H io S [] [] := fun _ _ _ _ => rfl
theorem ks_cons {K : PySem.W.Frag} {w : Dv} {v : V} {ws : List Dv} {vs : List V} (h : ∀ hd H io S, Dn ⟨K, hd⟩ H io S w v) (t : ∀ hd H io S, Dns ⟨K, hd⟩ H io S ws vs) : ∀ hd H io S, Dns ⟨K, hd⟩ H io S (w :: ws) (v :: vs) := fun hd H io S => ⟨v, vs, rfl, h hd H io S, t hd H io S⟩
theorem kit_out {K : PySem.W.Frag} {C : Addr} (hd : PySem.W.hasDictIn K C = true) (ty : PySem.W.typeIn K (.ref C) = some (.type "type")) {T : String} (h : PySem.W.subIn K (.type T) (.ref C) = some false) : PySem.W.kitOne K (.type T) (.ref C) = some false := by
  obtain ⟨cd, hc, _⟩ := PySem.W.any_some hd
  unfold PySem.W.kitOne
  rw [if_neg (by intro z; cases beq_iff_eq.mp z)]
  unfold PySem.W.kitCls
  dsimp only
  rw [if_pos (by rw [hc, ty]; rfl)]
  exact h
theorem kit_inn {K : PySem.W.Frag} {C : Addr} {T : String} (h : PySem.W.mroIn K C (.type T) = some false) (hm : PySem.W.kitMeta T = true) : PySem.W.kitOne K (.ref C) (.type T) = some false := by
  unfold PySem.W.kitOne
  rw [if_neg (by intro z; cases beq_iff_eq.mp z)]
  unfold PySem.W.kitCls
  dsimp only
  rw [if_pos hm]
  exact h
theorem meta_ok : ∀ T ∈ tyNames, PySem.W.kitMeta T = true := by decide +kernel
theorem sub_1 {K : PySem.W.Frag} {C : Addr} : PySem.W.subIn K (.type "NoneType") (.ref C) = some false := by first | rfl | kernel_rfl
theorem sub_2 {K : PySem.W.Frag} {C : Addr} : PySem.W.subIn K (.type "bool") (.ref C) = some false := by first | rfl | kernel_rfl
theorem sub_3 {K : PySem.W.Frag} {C : Addr} : PySem.W.subIn K (.type "int") (.ref C) = some false := by first | rfl | kernel_rfl
theorem sub_4 {K : PySem.W.Frag} {C : Addr} : PySem.W.subIn K (.type "str") (.ref C) = some false := by first | rfl | kernel_rfl
theorem sub_5 {K : PySem.W.Frag} {C : Addr} : PySem.W.subIn K (.type "tuple") (.ref C) = some false := by first | rfl | kernel_rfl
theorem sub_6 {K : PySem.W.Frag} {C : Addr} : PySem.W.subIn K (.type "list") (.ref C) = some false := by first | rfl | kernel_rfl
theorem sub_7 {K : PySem.W.Frag} {C : Addr} : PySem.W.subIn K (.type "dict") (.ref C) = some false := by first | rfl | kernel_rfl
theorem sub_8 {K : PySem.W.Frag} {C : Addr} : PySem.W.subIn K (.type "set") (.ref C) = some false := by first | rfl | kernel_rfl
theorem clf_mk {K : PySem.W.Frag} {C : Addr} (cls : Cls K C) (ha : PySem.W.findIn K (.ref C) "__class__" = some (some (.builtin "object.__class__"))) (hn : PySem.W.specialIn K (.builtin "object.__class__") "__get__" = some (some (.builtin "getset_descriptor.__get__")))
    (htk : PySem.W.takesIn K (.builtin "object.__class__") = some true) (hm : PySem.W.mroIn K C (.type "object") = some true) (ty : PySem.W.typeIn K (.ref C) = some (.type "type"))
    (i1 : PySem.W.mroIn K C (.type "NoneType") = some false) (i2 : PySem.W.mroIn K C (.type "bool") = some false) (i3 : PySem.W.mroIn K C (.type "int") = some false) (i4 : PySem.W.mroIn K C (.type "str") = some false) (i5 : PySem.W.mroIn K C (.type "tuple") = some false) (i6 : PySem.W.mroIn K C (.type "list") = some false) (i7 : PySem.W.mroIn K C (.type "dict") = some false) (i8 : PySem.W.mroIn K C (.type "set") = some false) : ClF K C := by
  refine ⟨cls, ha, hn, htk, hm, fun T hT => ?_, fun T hT => ?_⟩
  · rcases List.mem_cons.mp hT with rfl | hT; · exact kit_out cls.hd ty sub_1
    rcases List.mem_cons.mp hT with rfl | hT; · exact kit_out cls.hd ty sub_2
    rcases List.mem_cons.mp hT with rfl | hT; · exact kit_out cls.hd ty sub_3
    rcases List.mem_cons.mp hT with rfl | hT; · exact kit_out cls.hd ty sub_4
    rcases List.mem_cons.mp hT with rfl | hT; · exact kit_out cls.hd ty sub_5
    rcases List.mem_cons.mp hT with rfl | hT; · exact kit_out cls.hd ty sub_6
    rcases List.mem_cons.mp hT with rfl | hT; · exact kit_out cls.hd ty sub_7
    rw [List.mem_singleton.mp hT]; exact kit_out cls.hd ty sub_8
  · have mt := meta_ok T hT
    rcases List.mem_cons.mp hT with rfl | hT; · exact kit_inn i1 mt
    rcases List.mem_cons.mp hT with rfl | hT; · exact kit_inn i2 mt
    rcases List.mem_cons.mp hT with rfl | hT; · exact kit_inn i3 mt
    rcases List.mem_cons.mp hT with rfl | hT; · exact kit_inn i4 mt
    rcases List.mem_cons.mp hT with rfl | hT; · exact kit_inn i5 mt
    rcases List.mem_cons.mp hT with rfl | hT; · exact kit_inn i6 mt
    rcases List.mem_cons.mp hT with rfl | hT; · exact kit_inn i7 mt
    rw [List.mem_singleton.mp hT] at mt ⊢; exact kit_inn i8 mt
end
/-- the world, by a table of the classes -/
def tabW (P : Program) (w : World) (tab : List (String × Addr)) : HasW := ⟨P, w, fun n => tab.lookup n⟩
theorem lookup_mem {n : String} {C : Addr} : ∀ {tab : List (String × Addr)}, tab.lookup n = some C → (n, C) ∈ tab
  | [], h => by cases h
  | (m, D) :: tab, h => by
    rw [List.lookup_cons] at h
    cases hb : n == m with
    | true =>
      rw [hb] at h
      have e : n = m := eq_of_beq hb
      subst e
      cases h
      exact List.mem_cons_self
    | false =>
      rw [hb] at h
      exact List.mem_cons_of_mem _ (lookup_mem h)
theorem tab_clsF {P : Program} {w : World} {K : PySem.W.Frag} {tab : List (String × Addr)} (one : ∀ p ∈ tab, ClF K p.2) (two : ∀ p ∈ tab, ∀ q ∈ tab, p.1 ≠ q.1 → PySem.W.kitOne K (.ref p.2) (.ref q.2) = some false) : @ClsF (tabW P w tab) K :=
  @ClsF.mk (tabW P w tab) K (fun n C h => one _ (lookup_mem h)) fun n C m D h1 h2 ne => two _ (lookup_mem h1) _ (lookup_mem h2) ne
/-- the end of a law, the classes told by the top -/
theorem walk_ofI {l : PySem.W.OpenLaw} {n k : Nat} {q : Program} {loose : List Str} {XP : (Str → Option Value) → Heap → Prop} {YP : World → Heap → Prop} {d : DefRec} {K : Params → PySem.W.Frag} {g : List Dv → M Dv} {x : Str}
    (hn : l.most = some n) (hn2 : n ≤ sizeLine) (hdf : d.params.defaults = []) (hr : Room k callerA)
    (hY : ∀ (w : World) (h : Heap), YP w h → (K w.params).In h)
    (F : ∀ (w : World) (mg : Str → Option Value) (fa : Addr) (h : Heap), (K w.params).In h → h.Ns mainGlobals mg → mg d.name = some (.ref fa) →
      ∃ (IW : HasW) (fd : FuncData), (∀ (s : Shared) (u : Value), BindsTo s fd ⟨[u], []⟩ [(x, u)]) ∧
        ∀ base : Heap, (K w.params).In base → base.Ns mainGlobals mg → FnG l.prog w (K w.params) mg base k fa fd [x] (@spD IW (K w.params) 1 g))
    (hlaw : HasW → ∀ ns : List Int, ns.length ≤ n → ∃ S', g [.kls (ns.map .int)] [] = some (.bl true, S')) :
    PySem.W.WalkO q loose XP YP l.row.toRowW d [] (fun f vs => PySem.call f vs) := by
  refine Att.attach_call hn hdf fun w s0 s1 mg mb fa o pm cd doc a vs ns G Y ho hd hcd hmg hobj hints hlen hg => ?_
  have inK := hY w _ Y
  obtain ⟨IW, fd, hb, hF⟩ := F w mg fa _ inK G.T.g hmg
  refine law_endG inK G.T.g G.T.b G.T.builtins G.T.nolimit hg hobj hints (Nat.le_trans hlen hn2) hr hF hb fun H hO hS => ?_
  obtain ⟨S', hg'⟩ := hlaw IW ns hlen
  have noL : ∀ ys, H a ≠ some (.lst ys) := fun ys e => by
    rcases hO a with z | ⟨o, xs, z⟩
    · rw [e] at z; cases z
    · rw [e] at z; cases z
  have dints : ∀ ns : List Int, Dns ⟨K w.params, []⟩ H [] [] (ns.map .int) (ns.map V.int) := fun ns => by
    induction ns with
    | nil => rfl
    | cons i ns ih => exact ⟨_, _, rfl, rfl, ih⟩
  refine ⟨[], [], [], [.kls (ns.map .int)], _, S', ⟨rfl, .nil, fun b z => (nomatch z), fun b z => (nomatch z), fun n ws z => by simp at z⟩, ⟨_, _, rfl, ⟨a, _, rfl, Fx.of hS noL, dints ns⟩, rfl⟩, rfl, hg', fun v H' io' k r d => d⟩
end DD
namespace DD
open PySem PySem.Spec PyProof.Rows L2
variable [IW : HasW]
section
variable {X : Cx}
/-- sum(xs) of a list of whole numbers -/
def sumD (ws : List Dv) : M Dv := fun S => match ws with
  | [w] => match (lsV S w).bind intsOf with
    | some ns => some (.int ns.sum, S)
    | none => none
  | _ => none
theorem cd_sum (hc : X.calm = true) : CD X (.builtin "sum") sumD := by
  rintro pins s σ H xs us Q I rv ⟨hd, S, io, ws, w, S', r, d, hm, hq⟩
  unfold sumD at hm
  split at hm
  · split at hm
    · rename_i ns hn
      cases hm
      obtain ⟨ls, hs, hi⟩ := Option.bind_eq_some_iff.mp hn
      obtain ⟨v, rfl, dv⟩ := dns1 d
      obtain ⟨a, ys, rfl, hx, hz, dx⟩ := lsV_at r dv hs
      have e0 := intsOf_some hi
      subst e0
      have e1 := dns_ints dx
      subst e1
      exact cr_sum hc pins s σ H _ us Q I rv ⟨a, ns, rfl, .of hx, hq.self r rfl⟩
    · cases hm
  · cases hm
@[simp] theorem sumD_lst (ns : List Int) : sumD [.lst (ns.map .int)] = M.ret (.int ns.sum) := by
  funext S
  show (match ((some (ns.map Dv.int)).bind intsOf) with | some ns => some (Dv.int ns.sum, S) | none => none) = _
  rw [Option.bind_some, intsOf_map]
  rfl
/-- a, b, c = x, y, z -/
def parS3 (i j l : Nat) (m : M (List Dv)) (env : En) : M Fl := M.bind m fun ws => match ws with
  | [v, w, u] => M.ret (.nx (((env.set i (some v)).set j (some w)).set l (some u)))
  | _ => M.no
theorem sd_par3 {st : Stmt} {i j l : Nat} {m : En → M (List Dv)} (h : PS X st (tPar3 i j l (tDA X.K m))) : SD X st (fun env => parS3 i j l (m env) env) := sd_of h (by
  rintro D σ H ⟨hd, env, S, io, f, S', r, en, hm, hq⟩
  obtain ⟨ws, S1, h1, hm⟩ := M.bind_some hm
  split at hm
  · rename_i w1 w2 w3
    obtain ⟨rfl, rfl⟩ := M.ret_some hm
    refine ⟨hd, env, S, io, _, _, r, en, h1, fun vs H1 io1 k1 r1 d1 => ?_⟩
    obtain ⟨v, vr, rfl, d1, v2, vr2, rfl, d2, v3, vr3, rfl, d3, e3⟩ := d1
    have e3 : vr3 = [] := e3
    subst e3
    exact ⟨v, v2, v3, rfl, hq _ H1 io1 k1 r1 ((((en.mono k1).set d1).set d2).set d3)⟩
  · cases hm)
@[simp] theorem parS3_ret (i j l : Nat) (v w u : Dv) (env : En) : parS3 i j l (M.ret [v, w, u]) env = M.ret (.nx (((env.set i (some v)).set j (some w)).set l (some u))) := Eq.trans rfl rfl
/-- from here on the list at a name is no more changed -/
def fzE (i : Nat) (env : En) : M En := fun S => match env[i]? with
  | some (some (.ref n)) => match fzS S n with
    | some w => some (env.set i (some w), S.set n .gone)
    | none => none
  | _ => some (env, S)
theorem sd_fz {st : Stmt} (i : Nat) {m : En → M Fl} (h : SD X st m) : SD X st (fun env => M.bind (fzE i env) m) := sd_of h (by
  rintro D σ H ⟨hd, env, S, io, f, S', r, en, hm, hq⟩
  obtain ⟨env2, S1, h1, hm⟩ := M.bind_some hm
  unfold fzE at h1
  split at h1
  · rename_i n hn
    split at h1
    · rename_i w hs
      cases h1
      obtain ⟨o, ho, hf⟩ := fzS_some hs
      obtain ⟨v, hv, d⟩ := en.2 i _ hn
      obtain ⟨a, rfl, ha⟩ := d
      have k : Kp ⟨X.K, hd⟩ H io S H io (S.set n .gone) := Kp.gone
      refine ⟨hd, _, _, io, f, S', r.gone, ?_, hm, hq.after k⟩
      have e2 := en.mono k
      refine ⟨by rw [List.length_set]; exact en.1, fun j w' hj => ?_⟩
      by_cases c : i = j
      · subst c
        have hi := (List.getElem?_eq_some_iff.mp hn).1
        rw [List.getElem?_set_self hi] at hj
        cases hj
        exact ⟨_, hv, gone_fz r ho hf ha⟩
      · rw [List.getElem?_set_ne c] at hj
        exact e2.2 j w' hj
    · cases h1
  · cases h1
    exact ⟨hd, env, S, io, f, S', r, en, hm, hq⟩)
end
end DD
namespace K31
open PySem PySem.Spec PyProof.Rows L2 DD
/-! ### the text -/
def topS (i : Nat) : Stmt := PySem.Challenge.pw_settledhands_k31_whole_any_value_as_run.main.body.getD i (.Pass ⟨0, 0, 0, 0⟩)
abbrev s_is_integer : Stmt := topS 12
abbrev N_is_integer : List Str := ["value"]
theorem sc_is_integer : FnScope N_is_integer ["value"] (defScope s_is_integer) := ⟨rfl, rfl, rfl, by decide +kernel, rfl, by decide +kernel, by decide +kernel⟩
abbrev s_is_list : Stmt := topS 14
abbrev N_is_list : List Str := ["value"]
theorem sc_is_list : FnScope N_is_list ["value"] (defScope s_is_list) := ⟨rfl, rfl, rfl, by decide +kernel, rfl, by decide +kernel, by decide +kernel⟩
abbrev s_numbers_by : Stmt := topS 22
abbrev N_numbers_by : List Str := ["ways", "found", "number", "way"]
theorem sc_numbers_by : FnScope N_numbers_by ["ways"] (defScope s_numbers_by) := ⟨rfl, rfl, rfl, by decide +kernel, rfl, by decide +kernel, by decide +kernel⟩
abbrev s_want_reader : Stmt := topS 24
abbrev N_want_reader : List Str := ["value"]
theorem sc_want_reader : FnScope N_want_reader ["value"] (defScope s_want_reader) := ⟨rfl, rfl, rfl, by decide +kernel, rfl, by decide +kernel, by decide +kernel⟩
abbrev s_letter_of : Stmt := topS 31
abbrev N_letter_of : List Str := ["row", "place", "begin", "again"]
theorem sc_letter_of : FnScope N_letter_of ["row", "place"] (defScope s_letter_of) := ⟨rfl, rfl, rfl, by decide +kernel, rfl, by decide +kernel, by decide +kernel⟩
abbrev s_are_joined_ways : Stmt := topS 35
abbrev N_are_joined_ways : List Str := ["reader", "ways", "room", "number", "begin", "letter", "end", "slip"]
theorem sc_are_joined_ways : FnScope N_are_joined_ways ["reader", "ways"] (defScope s_are_joined_ways) := ⟨rfl, rfl, rfl, by decide +kernel, rfl, by decide +kernel, by decide +kernel⟩
abbrev s_many_slips : Stmt := topS 39
abbrev N_many_slips : List Str := ["reader", "ways", "number"]
theorem sc_many_slips : FnScope N_many_slips ["reader", "ways"] (defScope s_many_slips) := ⟨rfl, rfl, rfl, by decide +kernel, rfl, by decide +kernel, by decide +kernel⟩
abbrev s_law_pot : Stmt := topS 46
abbrev N_law_pot : List Str := ["script", "k", "cell", "mixed"]
theorem sc_law_pot : FnScope N_law_pot ["script", "k"] (defScope s_law_pot) := ⟨rfl, rfl, rfl, by decide +kernel, rfl, by decide +kernel, by decide +kernel⟩
abbrev s_law_draw : Stmt := topS 47
abbrev N_law_draw : List Str := ["pot", "many", "drawn"]
theorem sc_law_draw : FnScope N_law_draw ["pot", "many"] (defScope s_law_draw) := ⟨rfl, rfl, rfl, by decide +kernel, rfl, by decide +kernel, by decide +kernel⟩
abbrev s_law_letter : Stmt := topS 52
abbrev N_law_letter : List Str := ["row", "place", "begin", "again", "many", "size"]
theorem sc_law_letter : FnScope N_law_letter ["row", "place"] (defScope s_law_letter) := ⟨rfl, rfl, rfl, by decide +kernel, rfl, by decide +kernel, by decide +kernel⟩
abbrev s_law_is_list : Stmt := topS 53
abbrev N_law_is_list : List Str := ["value", "ways", "least", "most", "one"]
theorem sc_law_is_list : FnScope N_law_is_list ["value", "ways", "least", "most"] (defScope s_law_is_list) := ⟨rfl, rfl, rfl, by decide +kernel, rfl, by decide +kernel, by decide +kernel⟩
abbrev s_is_count : Stmt := topS 13
abbrev N_is_count : List Str := ["value"]
theorem sc_is_count : FnScope N_is_count ["value"] (defScope s_is_count) := ⟨rfl, rfl, rfl, by decide +kernel, rfl, by decide +kernel, by decide +kernel⟩
abbrev s_run_slips : Stmt := topS 40
abbrev N_run_slips : List Str := ["reader", "run"]
theorem sc_run_slips : FnScope N_run_slips ["reader", "run"] (defScope s_run_slips) := ⟨rfl, rfl, rfl, by decide +kernel, rfl, by decide +kernel, by decide +kernel⟩
abbrev s_law_pick : Stmt := topS 48
abbrev N_law_pick : List Str := ["pot", "some"]
theorem sc_law_pick : FnScope N_law_pick ["pot", "some"] (defScope s_law_pick) := ⟨rfl, rfl, rfl, by decide +kernel, rfl, by decide +kernel, by decide +kernel⟩
abbrev s_law_reader : Stmt := topS 49
abbrev N_law_reader : List Str := ["pot", "letters", "most", "rooms", "ways", "left", "room", "letter", "way", "other"]
theorem sc_law_reader : FnScope N_law_reader ["pot", "letters", "most"] (defScope s_law_reader) := ⟨rfl, rfl, rfl, by decide +kernel, rfl, by decide +kernel, by decide +kernel⟩
abbrev s_law_letters : Stmt := topS 50
abbrev N_law_letters : List Str := ["pot", "letters", "many", "found", "turn"]
theorem sc_law_letters : FnScope N_law_letters ["pot", "letters", "many"] (defScope s_law_letters) := ⟨rfl, rfl, rfl, by decide +kernel, rfl, by decide +kernel, by decide +kernel⟩
abbrev s_law_is_run : Stmt := topS 54
abbrev N_law_is_run : List Str := ["ways", "row", "value", "head", "loop", "size", "room", "place", "number"]
theorem sc_law_is_run : FnScope N_law_is_run ["ways", "row", "value"] (defScope s_law_is_run) := ⟨rfl, rfl, rfl, by decide +kernel, rfl, by decide +kernel, by decide +kernel⟩
abbrev s_want_letters : Stmt := topS 15
abbrev N_want_letters : List Str := ["value"]
theorem sc_want_letters : FnScope N_want_letters ["value"] (defScope s_want_letters) := ⟨rfl, rfl, rfl, by decide +kernel, rfl, by decide +kernel, by decide +kernel⟩
abbrev s_is_way_of : Stmt := topS 20
abbrev N_is_way_of : List Str := ["letters", "rooms", "value", "one"]
theorem sc_is_way_of : FnScope N_is_way_of ["letters", "rooms", "value"] (defScope s_is_way_of) := ⟨rfl, rfl, rfl, by decide +kernel, rfl, by decide +kernel, by decide +kernel⟩
abbrev s_are_letters : Stmt := topS 28
abbrev N_are_letters : List Str := ["letters", "value", "one"]
theorem sc_are_letters : FnScope N_are_letters ["letters", "value"] (defScope s_are_letters) := ⟨rfl, rfl, rfl, by decide +kernel, rfl, by decide +kernel, by decide +kernel⟩
abbrev s_is_ways_list : Stmt := topS 36
abbrev N_is_ways_list : List Str := ["reader", "value", "least", "most", "one"]
theorem sc_is_ways_list : FnScope N_is_ways_list ["reader", "value", "least", "most"] (defScope s_is_ways_list) := ⟨rfl, rfl, rfl, by decide +kernel, rfl, by decide +kernel, by decide +kernel⟩
abbrev s_law_row : Stmt := topS 51
abbrev N_law_row : List Str := ["pot", "letters", "begin"]
theorem sc_law_row : FnScope N_law_row ["pot", "letters"] (defScope s_law_row) := ⟨rfl, rfl, rfl, by decide +kernel, rfl, by decide +kernel, by decide +kernel⟩
abbrev s_law_walk : Stmt := topS 55
abbrev N_law_walk : List Str := ["pot", "ways", "row", "room", "found", "marks", "place", "begin", "again", "turn", "some", "number", "way", "pairs", "at", "one", "other", "near", "far"]
theorem sc_law_walk : FnScope N_law_walk ["pot", "ways", "row"] (defScope s_law_walk) := ⟨rfl, rfl, rfl, by decide +kernel, rfl, by decide +kernel, by decide +kernel⟩
abbrev s_law_bent : Stmt := topS 56
abbrev N_law_bent : List Str := ["pot", "told", "ways", "kind", "head", "loop", "both", "at", "odd"]
theorem sc_law_bent : FnScope N_law_bent ["pot", "told", "ways"] (defScope s_law_bent) := ⟨rfl, rfl, rfl, by decide +kernel, rfl, by decide +kernel, by decide +kernel⟩
abbrev s_are_ways : Stmt := topS 21
abbrev N_are_ways : List Str := ["letters", "rooms", "value", "way", "unlike", "begins"]
theorem sc_are_ways : FnScope N_are_ways ["letters", "rooms", "value"] (defScope s_are_ways) := ⟨rfl, rfl, rfl, by decide +kernel, rfl, by decide +kernel, by decide +kernel⟩
abbrev s_is_row_of : Stmt := topS 29
abbrev N_is_row_of : List Str := ["letters", "value"]
theorem sc_is_row_of : FnScope N_is_row_of ["letters", "value"] (defScope s_is_row_of) := ⟨rfl, rfl, rfl, by decide +kernel, rfl, by decide +kernel, by decide +kernel⟩
abbrev s_is_told_run : Stmt := topS 37
abbrev N_is_told_run : List Str := ["reader", "value", "ways", "home"]
theorem sc_is_told_run : FnScope N_is_told_run ["reader", "value"] (defScope s_is_told_run) := ⟨rfl, rfl, rfl, by decide +kernel, rfl, by decide +kernel, by decide +kernel⟩
abbrev s_Reader___init__ : Stmt := inClass (topS 23) 0
abbrev N_Reader___init__ : List Str := ["self", "letters", "rooms", "ways"]
theorem sc_Reader___init__ : FnScope N_Reader___init__ ["self", "letters", "rooms", "ways"] (defScope s_Reader___init__) := ⟨rfl, rfl, rfl, by decide +kernel, rfl, by decide +kernel, by decide +kernel⟩
abbrev s_want_row : Stmt := topS 30
abbrev N_want_row : List Str := ["letters", "value"]
theorem sc_want_row : FnScope N_want_row ["letters", "value"] (defScope s_want_row) := ⟨rfl, rfl, rfl, by decide +kernel, rfl, by decide +kernel, by decide +kernel⟩
abbrev s_is_run_along : Stmt := topS 38
abbrev N_is_run_along : List Str := ["reader", "row", "value", "begin", "again", "more", "ways", "place", "number"]
theorem sc_is_run_along : FnScope N_is_run_along ["reader", "row", "value"] (defScope s_is_run_along) := ⟨rfl, rfl, rfl, by decide +kernel, rfl, by decide +kernel, by decide +kernel⟩
abbrev s_slips_of : Stmt := topS 44
abbrev N_slips_of : List Str := ["reader", "run", "told"]
theorem sc_slips_of : FnScope N_slips_of ["reader", "run"] (defScope s_slips_of) := ⟨rfl, rfl, rfl, by decide +kernel, rfl, by decide +kernel, by decide +kernel⟩
abbrev s_is_clean_along : Stmt := topS 41
abbrev N_is_clean_along : List Str := ["reader", "row", "value"]
theorem sc_is_clean_along : FnScope N_is_clean_along ["reader", "row", "value"] (defScope s_is_clean_along) := ⟨rfl, rfl, rfl, by decide +kernel, rfl, by decide +kernel, by decide +kernel⟩
abbrev s_is_run : Stmt := topS 42
abbrev N_is_run : List Str := ["reader", "row", "value", "told"]
theorem sc_is_run : FnScope N_is_run ["reader", "row", "value"] (defScope s_is_run) := ⟨rfl, rfl, rfl, by decide +kernel, rfl, by decide +kernel, by decide +kernel⟩
abbrev s_is_clean_run : Stmt := topS 43
abbrev N_is_clean_run : List Str := ["reader", "row", "value", "told"]
theorem sc_is_clean_run : FnScope N_is_clean_run ["reader", "row", "value"] (defScope s_is_clean_run) := ⟨rfl, rfl, rfl, by decide +kernel, rfl, by decide +kernel, by decide +kernel⟩
abbrev s_law_right : Stmt := topS 57
abbrev N_law_right : List Str := ["pot", "letters", "rooms", "ways", "reader", "row", "told", "other", "values", "turn", "value", "here", "slips", "is_clean", "due", "shown", "part", "number"]
theorem sc_law_right : FnScope N_law_right ["pot"] (defScope s_law_right) := ⟨rfl, rfl, rfl, by decide +kernel, rfl, by decide +kernel, by decide +kernel⟩
abbrev s_law : Stmt := topS 58
abbrev N_law : List Str := ["script"]
theorem sc_law : FnScope N_law ["script"] (defScope s_law) := ⟨rfl, rfl, rfl, by decide +kernel, rfl, by decide +kernel, by decide +kernel⟩
/-! ### the mirrors -/
def c_MOST_LETTERS : M Dv := M.ret (.int 4)
def c_MOST_ROOMS : M Dv := M.ret (.int 24)
def c_MOST_WAYS : M Dv := M.ret (.int 400)
def c_WAY_PARTS : M Dv := M.ret (.int 4)
def c_MOST_BEGIN : M Dv := M.ret (.int 40)
def c_MOST_HEAD : M Dv := M.ret (.int 1000)
def c_MOST_LOOP : M Dv := M.ret (.int 960)
noncomputable def b_is_integer : En → M Fl := fun env => retS (andV (M.bind (consA (rdE 0 env) (consA (M.ret (.ty "int")) (M.ret []))) isiA) (notV (M.bind (consA (rdE 0 env) (consA (M.ret (.ty "bool")) (M.ret []))) isiA)))
noncomputable def g_is_integer : List Dv → M Dv := fnM N_is_integer.length b_is_integer
noncomputable def b_is_list : En → M Fl := fun env => retS (M.bind (consA (rdE 0 env) (consA (tupD (consA (M.ret (.ty "list")) (consA (M.ret (.ty "tuple")) (M.ret [])))) (M.ret []))) isiA)
noncomputable def g_is_list : List Dv → M Dv := fnM N_is_list.length b_is_list
noncomputable def b_numbers_by : En → M Fl := fun env => seqD (setS 1 (newT) env) fun env => seqD (forD (enmD (consA (rdE 0 env) (M.ret []))) (tupG 2 (gsCons (setE 2) (gsCons (setE 3) (gsNil)))) (fun env => asgS (fun w env => M.bind (rdE 1 env) fun o => M.bind (M.bind (rdE 3 env) fun x => M.bind (M.ret none) fun i => M.bind (M.bind (M.ret (.int 2)) asI) fun j => slD x i j) fun i => M.bind (putA o i w) fun _ => M.ret env) (M.bind (kmD getK (rdE 1 env) (consA (M.bind (rdE 3 env) fun x => M.bind (M.ret none) fun i => M.bind (M.bind (M.ret (.int 2)) asI) fun j => slD x i j) (consA (tupD (M.ret [])) (M.ret [])))) fun x => M.bind (tupD (consA (rdE 2 env) (M.ret []))) fun y => addD x y) env) env) fun env => retS (rdE 1 env)
noncomputable def g_numbers_by : List Dv → M Dv := fnM N_numbers_by.length b_numbers_by
noncomputable def b_want_reader : En → M Fl := fun env => seqD (ifS (notT (M.bind (M.bind (consA (rdE 0 env) (consA (M.ret (.cl "Reader")) (M.ret []))) isiA) asB)) (M.no) (nxD env)) fun env => retS (rdE 0 env)
noncomputable def g_want_reader : List Dv → M Dv := fnM N_want_reader.length b_want_reader
noncomputable def b_letter_of : En → M Fl := fun env => seqD (asgS (tupG 2 (gsCons (setE 2) (gsCons (setE 3) (gsNil)))) (rdE 0 env) env) fun env => retS (ifE (M.bind (M.bind (rdE 1 env) fun x => M.bind (M.bind (consA (rdE 2 env) (M.ret [])) lenA) fun y => ltD x y) asB) (M.bind (rdE 2 env) fun x => M.bind (rdE 1 env) fun y => ixA x y) (M.bind (rdE 3 env) fun x => M.bind (M.bind (M.bind (rdE 1 env) fun x => M.bind (M.bind (consA (rdE 2 env) (M.ret [])) lenA) fun y => subD x y) fun x => M.bind (M.bind (consA (rdE 3 env) (M.ret [])) lenA) fun y => modD x y) fun y => ixA x y))
noncomputable def g_letter_of : List Dv → M Dv := fnM N_letter_of.length b_letter_of
noncomputable def b_are_joined_ways : En → M Fl := fun env => seqD (setS 2 (M.ret (.int 0)) env) fun env => seqD (forD (M.bind (rdE 1 env) srD) (setE 3) (fun env => seqD (asgS (tupG 4 (gsCons (setE 4) (gsCons (setE 5) (gsCons (setE 6) (gsCons (setE 7) (gsNil)))))) (M.bind (M.bind (rdE 0 env) (fldD ["Reader"] "own_ways")) fun x => M.bind (rdE 3 env) fun y => ixA x y) env) fun env => seqD (ifS (M.bind (M.bind (rdE 4 env) fun x => M.bind (rdE 2 env) fun y => neD x y) asB) (retS (M.ret (.bl false))) (nxD env)) fun env => setS 2 (rdE 6 env) env) env) fun env => retS (M.ret (.bl true))
noncomputable def g_are_joined_ways : List Dv → M Dv := fnM N_are_joined_ways.length b_are_joined_ways
noncomputable def b_many_slips : En → M Fl := fun env => retS (M.bind (consA (lcD (M.bind (rdE 1 env) srD) [2] (setE 2) (fun _ => M.ret true) (fun env => M.bind (M.bind (M.bind (rdE 0 env) (fldD ["Reader"] "own_ways")) fun x => M.bind (rdE 2 env) fun y => ixA x y) fun x => M.bind (M.ret (.int 3)) fun y => ixA x y) env) (M.ret [])) sumD)
noncomputable def g_many_slips : List Dv → M Dv := fnM N_many_slips.length b_many_slips
noncomputable def bl_law_pot : En → M Fl := fun env => seqD (setS 2 (ifE (M.bind (M.bind (rdE 1 env) fun x => M.bind (M.bind (consA (rdE 0 env) (M.ret [])) lenA) fun y => ltD x y) asB) (M.bind (consA (M.bind (rdE 0 env) fun x => M.bind (rdE 1 env) fun y => ixA x y) (M.ret [])) absD) (M.bind (M.bind (M.ret (.int 1061)) fun x => M.bind (rdE 1 env) fun y => mulD x y) fun x => M.bind (M.ret (.int 673)) fun y => addD x y)) env) fun env => seqD (setS 3 (M.bind (M.bind (M.bind (consA (M.bind (M.bind (M.bind (M.bind (M.bind (consA (rdE 2 env) (M.ret [])) intD) fun x => M.bind (M.ret (.int 2147483549)) fun y => modD x y) fun x => M.bind (M.ret (.int 41227)) fun y => mulD x y) fun x => M.bind (M.bind (M.ret (.int 1811)) fun x => M.bind (rdE 1 env) fun y => mulD x y) fun y => addD x y) fun x => M.bind (M.ret (.int 109)) fun y => addD x y) (M.ret [])) intD) fun x => M.bind (M.ret (.int 2147483563)) fun y => modD x y) fun x => M.bind (M.ret (.int 1)) fun y => addD x y) env) fun env => retS (newD (consA (M.bind (consA (M.ret (.int 0)) (consA (M.bind (rdE 2 env) fun x => M.bind (M.bind (M.ret (.int 10)) fun x => M.bind (M.ret (.int 18)) fun y => powD x y) fun y => subD x y) (M.ret []))) maxD) (consA (rdE 3 env) (M.ret []))))
noncomputable def gl_law_pot : List Dv → M Dv := fnL N_law_pot.length bl_law_pot
noncomputable def b_law_draw : En → M Fl := fun env => seqD (ifS (M.bind (M.bind (M.bind (rdE 0 env) fun x => M.bind (M.ret (.int 0)) fun y => ixA x y) fun x => M.bind (M.ret (.int 0)) fun y => gtD x y) asB) (seqD (asgS (tupG 2 (gsCons (fun w env => M.bind (rdE 0 env) fun o => M.bind (M.ret (.int 0)) fun i => M.bind (putA o i w) fun _ => M.ret env) (gsCons (setE 2) (gsNil)))) (M.bind (consA (M.bind (rdE 0 env) fun x => M.bind (M.ret (.int 0)) fun y => ixA x y) (consA (rdE 1 env) (M.ret []))) divmodD) env) fun env => retS (rdE 2 env)) (nxD env)) fun env => seqD (asgS (fun w env => M.bind (rdE 0 env) fun o => M.bind (M.ret (.int 1)) fun i => M.bind (putA o i w) fun _ => M.ret env) (M.bind (M.bind (consA (M.bind (M.bind (rdE 0 env) fun x => M.bind (M.ret (.int 1)) fun y => ixA x y) fun x => M.bind (M.ret (.int 16807)) fun y => mulD x y) (M.ret [])) intD) fun x => M.bind (M.ret (.int 2147483647)) fun y => modD x y) env) fun env => retS (M.bind (M.bind (consA (M.bind (M.bind (rdE 0 env) fun x => M.bind (M.ret (.int 1)) fun y => ixA x y) fun x => M.bind (M.ret (.int 13)) fun y => fdivD x y) (M.ret [])) intD) fun x => M.bind (rdE 1 env) fun y => modD x y)
noncomputable def g_law_draw : List Dv → M Dv := fnM N_law_draw.length b_law_draw
noncomputable def b_law_letter : En → M Fl := fun env => seqD (asgS (tupG 2 (gsCons (setE 2) (gsCons (setE 3) (gsNil)))) (rdE 0 env) env) fun env => seqD (parS 4 5 (consA (M.bind (consA (rdE 2 env) (M.ret [])) lenA) (consA (M.bind (consA (rdE 3 env) (M.ret [])) lenA) (M.ret []))) env) fun env => retS (ifE (M.bind (M.bind (rdE 1 env) fun x => M.bind (rdE 4 env) fun y => ltD x y) asB) (M.bind (rdE 2 env) fun x => M.bind (rdE 1 env) fun y => ixA x y) (M.bind (rdE 3 env) fun x => M.bind (M.bind (M.bind (consA (M.bind (rdE 1 env) fun x => M.bind (rdE 4 env) fun y => subD x y) (M.ret [])) intD) fun x => M.bind (rdE 5 env) fun y => modD x y) fun y => ixA x y))
noncomputable def g_law_letter : List Dv → M Dv := fnM N_law_letter.length b_law_letter
noncomputable def b_law_is_list : En → M Fl := fun env => seqD (ifS (orT (notT (M.bind (M.bind (consA (rdE 0 env) (consA (tupD (consA (M.ret (.ty "list")) (consA (M.ret (.ty "tuple")) (M.ret [])))) (M.ret []))) isiA) asB)) (notT (M.bind (chD leD leD (rdE 2 env) (M.bind (consA (rdE 0 env) (M.ret [])) lenA) (rdE 3 env)) asB))) (retS (M.ret (.bl false))) (nxD env)) fun env => retS (M.bind (consA (lcD (M.bind (rdE 0 env) srD) [4] (setE 4) (fun _ => M.ret true) (fun env => andV (M.bind (consA (rdE 4 env) (consA (M.ret (.ty "int")) (M.ret []))) isiA) (andV (notV (M.bind (consA (rdE 4 env) (consA (M.ret (.ty "bool")) (M.ret []))) isiA)) (chD leD ltD (M.ret (.int 0)) (rdE 4 env) (M.bind (consA (rdE 1 env) (M.ret [])) lenA)))) env) (M.ret [])) allD)
noncomputable def g_law_is_list : List Dv → M Dv := fnM N_law_is_list.length b_law_is_list
noncomputable def b_is_count : En → M Fl := fun env => retS (andV (callD 1 g_is_integer (consA (rdE 0 env) (M.ret []))) (M.bind (rdE 0 env) fun x => M.bind (M.ret (.int 0)) fun y => geD x y))
noncomputable def g_is_count : List Dv → M Dv := fnM N_is_count.length b_is_count
noncomputable def b_run_slips : En → M Fl := fun env => retS (tupD (consA (callD 2 g_many_slips (consA (rdE 0 env) (consA (M.bind (rdE 1 env) fun x => M.bind (M.ret (.int 0)) fun y => ixA x y) (M.ret [])))) (consA (callD 2 g_many_slips (consA (rdE 0 env) (consA (M.bind (rdE 1 env) fun x => M.bind (M.ret (.int 1)) fun y => ixA x y) (M.ret [])))) (M.ret []))))
noncomputable def g_run_slips : List Dv → M Dv := fnM N_run_slips.length b_run_slips
noncomputable def b_law_pick : En → M Fl := fun env => retS (M.bind (rdE 1 env) fun x => M.bind (callD 2 g_law_draw (consA (rdE 0 env) (consA (M.bind (consA (rdE 1 env) (M.ret [])) lenA) (M.ret [])))) fun y => ixA x y)
noncomputable def g_law_pick : List Dv → M Dv := fnM N_law_pick.length b_law_pick
noncomputable def b_law_reader : En → M Fl := fun env => seqD (parS3 3 4 5 (consA (M.bind (M.ret (.int 1)) fun x => M.bind (callD 2 g_law_draw (consA (rdE 0 env) (consA (rdE 2 env) (M.ret [])))) fun y => addD x y) (consA (newD (M.ret [])) (consA (M.ret (.int 4)) (M.ret [])))) env) fun env => seqD (setS 5 (ifE (M.bind (M.bind (rdE 3 env) fun x => M.bind (M.ret (.int 3)) fun y => eqD x y) asB) (M.ret (.int 2)) (rdE 5 env)) env) fun env => seqD (forD (rng1 (consA (rdE 3 env) (M.ret []))) (setE 6) (fun env => forD (rng1 (consA (rdE 1 env) (M.ret []))) (setE 7) (fun env => seqD (setS 8 (tupD (consA (rdE 6 env) (consA (rdE 7 env) (consA (callD 2 g_law_draw (consA (rdE 0 env) (consA (rdE 3 env) (M.ret [])))) (consA (callD 2 g_law_draw (consA (rdE 0 env) (consA (M.ret (.int 2)) (M.ret [])))) (M.ret [])))))) env) fun env => seqD (exprS (bmD appD (rdE 4 env) (consA (rdE 8 env) (M.ret []))) env) fun env => seqD (setS 9 (tupD (consA (rdE 6 env) (consA (rdE 7 env) (consA (callD 2 g_law_draw (consA (rdE 0 env) (consA (rdE 3 env) (M.ret [])))) (consA (callD 2 g_law_draw (consA (rdE 0 env) (consA (M.ret (.int 2)) (M.ret [])))) (M.ret [])))))) env) fun env => ifS (andT (M.bind (M.bind (rdE 5 env) fun x => M.bind (M.ret (.int 0)) fun y => gtD x y) asB) (andT (M.bind (M.bind (rdE 9 env) fun x => M.bind (rdE 8 env) fun y => neD x y) asB) (M.bind (M.bind (callD 2 g_law_draw (consA (rdE 0 env) (consA (M.ret (.int 2)) (M.ret [])))) fun x => M.bind (M.ret (.int 0)) fun y => eqD x y) asB))) (seqD (exprS (bmD appD (rdE 4 env) (consA (rdE 9 env) (M.ret []))) env) fun env => setS 5 (M.bind (rdE 5 env) fun x => M.bind (M.ret (.int 1)) fun y => subD x y) env) (nxD env)) env) env) fun env => retS (tupD (consA (rdE 1 env) (consA (rdE 3 env) (consA (M.bind (consA (rdE 4 env) (M.ret [])) sortedA) (M.ret [])))))
noncomputable def g_law_reader : List Dv → M Dv := fnM N_law_reader.length b_law_reader
noncomputable def b_law_letters : En → M Fl := fun env => seqD (setS 3 (newD (M.ret [])) env) fun env => seqD (forD (rng1 (consA (rdE 2 env) (M.ret []))) (setE 4) (fun env => exprS (bmD appD (rdE 3 env) (consA (callD 2 g_law_draw (consA (rdE 0 env) (consA (rdE 1 env) (M.ret [])))) (M.ret []))) env) env) fun env => retS (M.bind (consA (rdE 3 env) (M.ret [])) tupleD)
noncomputable def g_law_letters : List Dv → M Dv := fnM N_law_letters.length b_law_letters
noncomputable def b_law_is_run : En → M Fl := fun env => seqD (ifS (orT (notT (M.bind (M.bind (consA (rdE 2 env) (consA (M.ret (.ty "tuple")) (M.ret []))) isiA) asB)) (M.bind (M.bind (M.bind (consA (rdE 2 env) (M.ret [])) lenA) fun x => M.bind (M.ret (.int 2)) fun y => neD x y) asB)) (retS (M.ret (.bl false))) (nxD env)) fun env => seqD (ifS (orT (notT (M.bind (callD 4 g_law_is_list (consA (M.bind (rdE 2 env) fun x => M.bind (M.ret (.int 0)) fun y => ixA x y) (consA (rdE 0 env) (consA (M.ret (.int 0)) (consA (M.ret (.int 1000)) (M.ret [])))))) asB)) (notT (M.bind (callD 4 g_law_is_list (consA (M.bind (rdE 2 env) fun x => M.bind (M.ret (.int 1)) fun y => ixA x y) (consA (rdE 0 env) (consA (M.ret (.int 1)) (consA (M.ret (.int 960)) (M.ret [])))))) asB))) (retS (M.ret (.bl false))) (nxD env)) fun env => seqD (parS3 3 4 5 (consA (M.bind (consA (M.bind (rdE 2 env) fun x => M.bind (M.ret (.int 0)) fun y => ixA x y) (M.ret [])) listD) (consA (M.bind (consA (M.bind (rdE 2 env) fun x => M.bind (M.ret (.int 1)) fun y => ixA x y) (M.ret [])) listD) (consA (M.bind (consA (M.bind (rdE 1 env) fun x => M.bind (M.ret (.int 1)) fun y => ixA x y) (M.ret [])) lenA) (M.ret [])))) env) fun env => seqD (ifS (orT (M.bind (M.bind (M.bind (consA (rdE 3 env) (M.ret [])) lenA) fun x => M.bind (M.bind (consA (M.bind (rdE 1 env) fun x => M.bind (M.ret (.int 0)) fun y => ixA x y) (M.ret [])) lenA) fun y => ltD x y) asB) (orT (M.bind (M.bind (M.bind (M.bind (consA (M.bind (M.bind (consA (rdE 3 env) (M.ret [])) lenA) fun x => M.bind (M.bind (consA (M.bind (rdE 1 env) fun x => M.bind (M.ret (.int 0)) fun y => ixA x y) (M.ret [])) lenA) fun y => subD x y) (M.ret [])) intD) fun x => M.bind (rdE 5 env) fun y => modD x y) fun x => M.bind (M.ret (.int 0)) fun y => neD x y) asB) (M.bind (M.bind (M.bind (M.bind (consA (M.bind (consA (rdE 4 env) (M.ret [])) lenA) (M.ret [])) intD) fun x => M.bind (rdE 5 env) fun y => modD x y) fun x => M.bind (M.ret (.int 0)) fun y => neD x y) asB))) (retS (M.ret (.bl false))) (nxD env)) fun env => seqD (setS 6 (M.ret (.int 0)) env) fun env => seqD (forD (enmD (consA (M.bind (rdE 3 env) fun x => M.bind (rdE 4 env) fun y => addD x y) (M.ret []))) (tupG 2 (gsCons (setE 7) (gsCons (setE 8) (gsNil)))) (fun env => seqD (ifS (orT (M.bind (M.bind (M.bind (M.bind (rdE 0 env) fun x => M.bind (rdE 8 env) fun y => ixA x y) fun x => M.bind (M.ret (.int 0)) fun y => ixA x y) fun x => M.bind (rdE 6 env) fun y => neD x y) asB) (M.bind (M.bind (M.bind (M.bind (rdE 0 env) fun x => M.bind (rdE 8 env) fun y => ixA x y) fun x => M.bind (M.ret (.int 1)) fun y => ixA x y) fun x => M.bind (callD 2 g_law_letter (consA (rdE 1 env) (consA (rdE 7 env) (M.ret [])))) fun y => neD x y) asB)) (retS (M.ret (.bl false))) (nxD env)) fun env => setS 6 (M.bind (M.bind (rdE 0 env) fun x => M.bind (rdE 8 env) fun y => ixA x y) fun x => M.bind (M.ret (.int 2)) fun y => ixA x y) env) env) fun env => retS (M.bind (rdE 6 env) fun x => M.bind (M.bind (M.bind (rdE 0 env) fun x => M.bind (M.bind (rdE 4 env) fun x => M.bind (M.ret (.int 0)) fun y => ixA x y) fun y => ixA x y) fun x => M.bind (M.ret (.int 0)) fun y => ixA x y) fun y => eqD x y)
noncomputable def g_law_is_run : List Dv → M Dv := fnM N_law_is_run.length b_law_is_run
noncomputable def b_want_letters : En → M Fl := fun env => seqD (ifS (orT (notT (M.bind (callD 1 g_is_count (consA (rdE 0 env) (M.ret []))) asB)) (notT (M.bind (chD leD leD (M.ret (.int 1)) (rdE 0 env) (c_MOST_LETTERS)) asB))) (M.no) (nxD env)) fun env => retS (rdE 0 env)
noncomputable def g_want_letters : List Dv → M Dv := fnM N_want_letters.length b_want_letters
noncomputable def b_is_way_of : En → M Fl := fun env => seqD (ifS (orT (notT (M.bind (M.bind (consA (rdE 2 env) (consA (M.ret (.ty "tuple")) (M.ret []))) isiA) asB)) (orT (M.bind (M.bind (M.bind (consA (rdE 2 env) (M.ret [])) lenA) fun x => M.bind (c_WAY_PARTS) fun y => neD x y) asB) (notT (M.bind (M.bind (consA (lcD (M.bind (rdE 2 env) srD) [3] (setE 3) (fun _ => M.ret true) (fun env => callD 1 g_is_count (consA (rdE 3 env) (M.ret []))) env) (M.ret [])) allD) asB)))) (retS (M.ret (.bl false))) (nxD env)) fun env => retS (andV (M.bind (M.bind (rdE 2 env) fun x => M.bind (M.ret (.int 0)) fun y => ixA x y) fun x => M.bind (rdE 1 env) fun y => ltD x y) (andV (M.bind (M.bind (rdE 2 env) fun x => M.bind (M.ret (.int 1)) fun y => ixA x y) fun x => M.bind (rdE 0 env) fun y => ltD x y) (andV (M.bind (M.bind (rdE 2 env) fun x => M.bind (M.ret (.int 2)) fun y => ixA x y) fun x => M.bind (rdE 1 env) fun y => ltD x y) (M.bind (M.bind (rdE 2 env) fun x => M.bind (M.ret (.int 3)) fun y => ixA x y) fun x => M.bind (M.ret (.int 2)) fun y => ltD x y))))
noncomputable def g_is_way_of : List Dv → M Dv := fnM N_is_way_of.length b_is_way_of
noncomputable def b_are_letters : En → M Fl := fun env => seqD (ifS (orT (notT (M.bind (M.bind (consA (rdE 1 env) (consA (M.ret (.ty "tuple")) (M.ret []))) isiA) asB)) (M.bind (M.bind (M.bind (consA (rdE 1 env) (M.ret [])) lenA) fun x => M.bind (c_MOST_BEGIN) fun y => gtD x y) asB)) (retS (M.ret (.bl false))) (nxD env)) fun env => retS (M.bind (consA (lcD (M.bind (rdE 1 env) srD) [2] (setE 2) (fun _ => M.ret true) (fun env => andV (callD 1 g_is_count (consA (rdE 2 env) (M.ret []))) (M.bind (rdE 2 env) fun x => M.bind (rdE 0 env) fun y => ltD x y)) env) (M.ret [])) allD)
noncomputable def g_are_letters : List Dv → M Dv := fnM N_are_letters.length b_are_letters
noncomputable def b_is_ways_list : En → M Fl := fun env => seqD (ifS (orT (notT (M.bind (callD 1 g_is_list (consA (rdE 1 env) (M.ret []))) asB)) (notT (M.bind (chD leD leD (rdE 2 env) (M.bind (consA (rdE 1 env) (M.ret [])) lenA) (rdE 3 env)) asB))) (retS (M.ret (.bl false))) (nxD env)) fun env => retS (M.bind (consA (lcD (M.bind (rdE 1 env) srD) [4] (setE 4) (fun _ => M.ret true) (fun env => andV (callD 1 g_is_count (consA (rdE 4 env) (M.ret []))) (M.bind (rdE 4 env) fun x => M.bind (M.bind (consA (M.bind (rdE 0 env) (fldD ["Reader"] "own_ways")) (M.ret [])) lenA) fun y => ltD x y)) env) (M.ret [])) allD)
noncomputable def g_is_ways_list : List Dv → M Dv := fnM N_is_ways_list.length b_is_ways_list
noncomputable def b_law_row : En → M Fl := fun env => seqD (setS 2 (callD 3 g_law_letters (consA (rdE 0 env) (consA (rdE 1 env) (consA (callD 2 g_law_draw (consA (rdE 0 env) (consA (M.ret (.int 3)) (M.ret [])))) (M.ret []))))) env) fun env => retS (tupD (consA (rdE 2 env) (consA (callD 3 g_law_letters (consA (rdE 0 env) (consA (rdE 1 env) (consA (M.bind (M.ret (.int 1)) fun x => M.bind (callD 2 g_law_draw (consA (rdE 0 env) (consA (M.ret (.int 4)) (M.ret [])))) fun y => addD x y) (M.ret []))))) (M.ret []))))
noncomputable def g_law_row : List Dv → M Dv := fnM N_law_row.length b_law_row
noncomputable def b_law_walk : En → M Fl := fun env => seqD (asgS (tupG 4 (gsCons (setE 3) (gsCons (setE 4) (gsCons (setE 5) (gsCons (setE 6) (gsNil)))))) (tupD (consA (M.ret (.int 0)) (consA (newD (M.ret [])) (consA (newD (M.ret [])) (consA (M.ret (.int 0)) (M.ret [])))))) env) fun env => seqD (asgS (tupG 2 (gsCons (setE 7) (gsCons (setE 8) (gsNil)))) (rdE 2 env) env) fun env => seqD (forD (rng1 (consA (M.bind (M.bind (consA (rdE 7 env) (M.ret [])) lenA) fun x => M.bind (M.bind (M.ret (.int 5)) fun x => M.bind (M.bind (consA (rdE 8 env) (M.ret [])) lenA) fun y => mulD x y) fun y => addD x y) (M.ret []))) (setE 9) (fun env => seqD (ifS (andT (M.bind (M.bind (rdE 6 env) fun x => M.bind (M.bind (consA (rdE 7 env) (M.ret [])) lenA) fun y => geD x y) asB) (M.bind (M.bind (M.bind (M.bind (consA (M.bind (rdE 6 env) fun x => M.bind (M.bind (consA (rdE 7 env) (M.ret [])) lenA) fun y => subD x y) (M.ret [])) intD) fun x => M.bind (M.bind (consA (rdE 8 env) (M.ret [])) lenA) fun y => modD x y) fun x => M.bind (M.ret (.int 0)) fun y => eqD x y) asB)) (exprS (bmD appD (rdE 5 env) (consA (tupD (consA (rdE 3 env) (consA (rdE 6 env) (M.ret [])))) (M.ret []))) env) (nxD env)) fun env => seqD (setS 10 (lcD (enmD (consA (rdE 1 env) (M.ret []))) [11, 12] (tupG 2 (gsCons (setE 11) (gsCons (setE 12) (gsNil)))) (fun env => andT (M.bind (M.bind (M.bind (rdE 12 env) fun x => M.bind (M.ret (.int 0)) fun y => ixA x y) fun x => M.bind (rdE 3 env) fun y => eqD x y) asB) (M.bind (M.bind (M.bind (rdE 12 env) fun x => M.bind (M.ret (.int 1)) fun y => ixA x y) fun x => M.bind (callD 2 g_law_letter (consA (rdE 2 env) (consA (rdE 6 env) (M.ret [])))) fun y => eqD x y) asB)) (fun env => rdE 11 env) env) env) fun env => seqD (exprS (bmD appD (rdE 4 env) (consA (callD 2 g_law_pick (consA (rdE 0 env) (consA (rdE 10 env) (M.ret [])))) (M.ret []))) env) fun env => asgS (tupG 2 (gsCons (setE 3) (gsCons (setE 6) (gsNil)))) (tupD (consA (M.bind (M.bind (rdE 1 env) fun x => M.bind (M.bind (rdE 4 env) fun x => M.bind (M.bind (M.ret (.int 1)) negD) fun y => ixA x y) fun y => ixA x y) fun x => M.bind (M.ret (.int 2)) fun y => ixA x y) (consA (M.bind (rdE 6 env) fun x => M.bind (M.ret (.int 1)) fun y => addD x y) (M.ret [])))) env) env) fun env => seqD (exprS (bmD appD (rdE 5 env) (consA (tupD (consA (rdE 3 env) (consA (rdE 6 env) (M.ret [])))) (M.ret []))) env) fun env => seqD (setS 13 (newD (M.ret [])) env) fun env => seqD (M.bind (fzE 5 env) fun env => forD (enmD (consA (rdE 5 env) (M.ret []))) (tupG 2 (gsCons (setE 14) (gsCons (setE 15) (gsNil)))) (fun env => exprS (bmD extD (rdE 13 env) (consA (lcD (M.bind (M.bind (rdE 5 env) fun x => M.bind (M.bind (M.bind (rdE 14 env) fun x => M.bind (M.ret (.int 1)) fun y => addD x y) asI) fun i => M.bind (M.ret none) fun j => slD x i j) srD) [16] (setE 16) (fun env => M.bind (M.bind (M.bind (rdE 15 env) fun x => M.bind (M.ret (.int 0)) fun y => ixA x y) fun x => M.bind (M.bind (rdE 16 env) fun x => M.bind (M.ret (.int 0)) fun y => ixA x y) fun y => eqD x y) asB) (fun env => tupD (consA (rdE 15 env) (consA (rdE 16 env) (M.ret [])))) env) (M.ret []))) env) env) fun env => seqD (asgS (tupG 2 (gsCons (setE 17) (gsCons (setE 18) (gsNil)))) (callD 2 g_law_pick (consA (rdE 0 env) (consA (rdE 13 env) (M.ret [])))) env) fun env => retS (tupD (consA (M.bind (rdE 4 env) fun x => M.bind (M.ret none) fun i => M.bind (M.bind (M.bind (rdE 17 env) fun x => M.bind (M.ret (.int 1)) fun y => ixA x y) asI) fun j => slD x i j) (consA (M.bind (rdE 4 env) fun x => M.bind (M.bind (M.bind (rdE 17 env) fun x => M.bind (M.ret (.int 1)) fun y => ixA x y) asI) fun i => M.bind (M.bind (M.bind (rdE 18 env) fun x => M.bind (M.ret (.int 1)) fun y => ixA x y) asI) fun j => slD x i j) (M.ret []))))
noncomputable def g_law_walk : List Dv → M Dv := fnM N_law_walk.length b_law_walk
noncomputable def b_law_bent : En → M Fl := fun env => seqD (asgS (tupG 2 (gsCons (setE 3) (gsCons (tupG 2 (gsCons (setE 4) (gsCons (setE 5) (gsNil)))) (gsNil)))) (tupD (consA (callD 2 g_law_draw (consA (rdE 0 env) (consA (M.ret (.int 8)) (M.ret [])))) (consA (rdE 1 env) (M.ret [])))) env) fun env => seqD (parS 6 7 (consA (M.bind (rdE 4 env) fun x => M.bind (rdE 5 env) fun y => addD x y) (consA (M.bind (callD 2 g_law_draw (consA (rdE 0 env) (consA (M.ret (.int 30)) (M.ret [])))) fun x => M.bind (M.bind (consA (M.bind (rdE 4 env) fun x => M.bind (rdE 5 env) fun y => addD x y) (M.ret [])) lenA) fun y => modD x y) (M.ret []))) env) fun env => seqD (setS 8 (callD 2 g_law_pick (consA (rdE 0 env) (consA (lstD (consA (M.ret (.int 0)) (consA (M.ret (.int 1)) (consA (M.bind (M.bind (consA (rdE 2 env) (M.ret [])) lenA) fun x => M.bind (M.ret (.int 1)) fun y => subD x y) (consA (M.bind (consA (rdE 2 env) (M.ret [])) lenA) (consA (M.ret (.bl true)) (consA (M.ret .non) (consA (M.bind (M.ret (.int 1)) negD) (M.ret []))))))))) (M.ret [])))) env) fun env => seqD (ifS (M.bind (M.bind (rdE 3 env) fun x => M.bind (M.ret (.int 0)) fun y => eqD x y) asB) (retS (tupD (consA (M.bind (rdE 4 env) fun x => M.bind (rdE 5 env) fun y => addD x y) (consA (rdE 5 env) (M.ret []))))) (nxD env)) fun env => seqD (ifS (M.bind (M.bind (rdE 3 env) fun x => M.bind (M.ret (.int 1)) fun y => eqD x y) asB) (retS (tupD (consA (rdE 4 env) (consA (M.bind (rdE 5 env) fun x => M.bind (rdE 5 env) fun y => addD x y) (M.ret []))))) (nxD env)) fun env => seqD (ifS (M.bind (M.bind (rdE 3 env) fun x => M.bind (M.ret (.int 2)) fun y => eqD x y) asB) (seqD (setS 6 (M.bind (M.bind (M.bind (rdE 6 env) fun x => M.bind (M.ret none) fun i => M.bind (M.bind (rdE 7 env) asI) fun j => slD x i j) fun x => M.bind (lstD (consA (rdE 8 env) (M.ret []))) fun y => addD x y) fun x => M.bind (M.bind (rdE 6 env) fun x => M.bind (M.bind (M.bind (rdE 7 env) fun x => M.bind (M.ret (.int 1)) fun y => addD x y) asI) fun i => M.bind (M.ret none) fun j => slD x i j) fun y => addD x y) env) fun env => retS (tupD (consA (M.bind (rdE 6 env) fun x => M.bind (M.ret none) fun i => M.bind (M.bind (M.bind (consA (rdE 4 env) (M.ret [])) lenA) asI) fun j => slD x i j) (consA (M.bind (rdE 6 env) fun x => M.bind (M.bind (M.bind (consA (rdE 4 env) (M.ret [])) lenA) asI) fun i => M.bind (M.ret none) fun j => slD x i j) (M.ret []))))) (nxD env)) fun env => seqD (ifS (M.bind (M.bind (rdE 3 env) fun x => M.bind (M.ret (.int 3)) fun y => eqD x y) asB) (retS (tupD (consA (rdE 4 env) (consA (M.bind (rdE 5 env) fun x => M.bind (M.ret none) fun i => M.bind (M.bind (M.bind (M.ret (.int 1)) negD) asI) fun j => slD x i j) (M.ret []))))) (nxD env)) fun env => seqD (ifS (M.bind (M.bind (rdE 3 env) fun x => M.bind (M.ret (.int 4)) fun y => eqD x y) asB) (retS (tupD (consA (M.bind (consA (rdE 4 env) (M.ret [])) tupleD) (consA (M.bind (consA (rdE 5 env) (M.ret [])) tupleD) (M.ret []))))) (nxD env)) fun env => seqD (ifS (M.bind (M.bind (rdE 3 env) fun x => M.bind (M.ret (.int 5)) fun y => eqD x y) asB) (retS (tupD (consA (M.bind (rdE 4 env) fun x => M.bind (M.bind (rdE 5 env) fun x => M.bind (M.ret none) fun i => M.bind (M.bind (M.ret (.int 1)) asI) fun j => slD x i j) fun y => addD x y) (consA (M.bind (M.bind (rdE 5 env) fun x => M.bind (M.bind (M.ret (.int 1)) asI) fun i => M.bind (M.ret none) fun j => slD x i j) fun x => M.bind (M.bind (rdE 5 env) fun x => M.bind (M.ret none) fun i => M.bind (M.bind (M.ret (.int 1)) asI) fun j => slD x i j) fun y => addD x y) (M.ret []))))) (nxD env)) fun env => retS (ifE (M.bind (M.bind (rdE 3 env) fun x => M.bind (M.ret (.int 6)) fun y => eqD x y) asB) (lstD (consA (rdE 4 env) (consA (rdE 5 env) (M.ret [])))) (tupD (consA (M.bind (rdE 4 env) fun x => M.bind (M.bind (M.ret (.int 1)) asI) fun i => M.bind (M.ret none) fun j => slD x i j) (consA (rdE 5 env) (M.ret [])))))
noncomputable def g_law_bent : List Dv → M Dv := fnM N_law_bent.length b_law_bent
noncomputable def b_are_ways : En → M Fl := fun env => seqD (ifS (orT (notT (M.bind (callD 1 g_is_list (consA (rdE 2 env) (M.ret []))) asB)) (notT (M.bind (chD leD leD (M.ret (.int 1)) (M.bind (consA (rdE 2 env) (M.ret [])) lenA) (c_MOST_WAYS)) asB))) (retS (M.ret (.bl false))) (nxD env)) fun env => seqD (ifS (notT (M.bind (M.bind (consA (lcD (M.bind (rdE 2 env) srD) [3] (setE 3) (fun _ => M.ret true) (fun env => callD 3 g_is_way_of (consA (rdE 0 env) (consA (rdE 1 env) (consA (rdE 3 env) (M.ret []))))) env) (M.ret [])) allD) asB)) (retS (M.ret (.bl false))) (nxD env)) fun env => seqD (setS 4 (M.bind (consA (rdE 2 env) (M.ret [])) setD) env) fun env => seqD (setS 5 (M.bind (consA (lcD (M.bind (rdE 2 env) srD) [3] (setE 3) (fun _ => M.ret true) (fun env => M.bind (rdE 3 env) fun x => M.bind (M.ret none) fun i => M.bind (M.bind (M.ret (.int 2)) asI) fun j => slD x i j) env) (M.ret [])) setD) env) fun env => retS (andV (M.bind (M.bind (consA (rdE 4 env) (M.ret [])) lenA) fun x => M.bind (M.bind (consA (rdE 2 env) (M.ret [])) lenA) fun y => eqD x y) (M.bind (M.bind (consA (rdE 5 env) (M.ret [])) lenA) fun x => M.bind (M.bind (rdE 0 env) fun x => M.bind (rdE 1 env) fun y => mulD x y) fun y => eqD x y))
noncomputable def g_are_ways : List Dv → M Dv := fnM N_are_ways.length b_are_ways
noncomputable def b_is_row_of : En → M Fl := fun env => seqD (ifS (orT (notT (M.bind (M.bind (consA (rdE 1 env) (consA (M.ret (.ty "tuple")) (M.ret []))) isiA) asB)) (M.bind (M.bind (M.bind (consA (rdE 1 env) (M.ret [])) lenA) fun x => M.bind (M.ret (.int 2)) fun y => neD x y) asB)) (retS (M.ret (.bl false))) (nxD env)) fun env => retS (andV (callD 2 g_are_letters (consA (rdE 0 env) (consA (M.bind (rdE 1 env) fun x => M.bind (M.ret (.int 0)) fun y => ixA x y) (M.ret [])))) (andV (callD 2 g_are_letters (consA (rdE 0 env) (consA (M.bind (rdE 1 env) fun x => M.bind (M.ret (.int 1)) fun y => ixA x y) (M.ret [])))) (M.bind (M.bind (rdE 1 env) fun x => M.bind (M.ret (.int 1)) fun y => ixA x y) fun x => M.bind (tupD (M.ret [])) fun y => neD x y)))
noncomputable def g_is_row_of : List Dv → M Dv := fnM N_is_row_of.length b_is_row_of
noncomputable def b_is_told_run : En → M Fl := fun env => seqD (ifS (orT (notT (M.bind (M.bind (consA (rdE 1 env) (consA (M.ret (.ty "tuple")) (M.ret []))) isiA) asB)) (M.bind (M.bind (M.bind (consA (rdE 1 env) (M.ret [])) lenA) fun x => M.bind (M.ret (.int 2)) fun y => neD x y) asB)) (retS (M.ret (.bl false))) (nxD env)) fun env => seqD (ifS (orT (notT (M.bind (callD 4 g_is_ways_list (consA (rdE 0 env) (consA (M.bind (rdE 1 env) fun x => M.bind (M.ret (.int 0)) fun y => ixA x y) (consA (M.ret (.int 0)) (consA (c_MOST_HEAD) (M.ret [])))))) asB)) (notT (M.bind (callD 4 g_is_ways_list (consA (rdE 0 env) (consA (M.bind (rdE 1 env) fun x => M.bind (M.ret (.int 1)) fun y => ixA x y) (consA (M.ret (.int 1)) (consA (c_MOST_LOOP) (M.ret [])))))) asB))) (retS (M.ret (.bl false))) (nxD env)) fun env => seqD (setS 2 (M.bind (M.bind (consA (M.bind (rdE 1 env) fun x => M.bind (M.ret (.int 0)) fun y => ixA x y) (M.ret [])) listD) fun x => M.bind (M.bind (consA (M.bind (rdE 1 env) fun x => M.bind (M.ret (.int 1)) fun y => ixA x y) (M.ret [])) listD) fun y => addD x y) env) fun env => seqD (setS 3 (M.bind (M.bind (M.bind (rdE 0 env) (fldD ["Reader"] "own_ways")) fun x => M.bind (M.bind (M.bind (rdE 1 env) fun x => M.bind (M.ret (.int 1)) fun y => ixA x y) fun x => M.bind (M.ret (.int 0)) fun y => ixA x y) fun y => ixA x y) fun x => M.bind (M.ret (.int 0)) fun y => ixA x y) env) fun env => retS (andV (callD 2 g_are_joined_ways (consA (rdE 0 env) (consA (rdE 2 env) (M.ret [])))) (M.bind (M.bind (M.bind (M.bind (rdE 0 env) (fldD ["Reader"] "own_ways")) fun x => M.bind (M.bind (rdE 2 env) fun x => M.bind (M.bind (M.ret (.int 1)) negD) fun y => ixA x y) fun y => ixA x y) fun x => M.bind (M.ret (.int 2)) fun y => ixA x y) fun x => M.bind (rdE 3 env) fun y => eqD x y))
noncomputable def g_is_told_run : List Dv → M Dv := fnM N_is_told_run.length b_is_told_run
noncomputable def b_Reader___init__ : En → M Fl := fun env => seqD (exprS (callD 1 g_want_letters (consA (rdE 1 env) (M.ret []))) env) fun env => seqD (ifS (orT (notT (M.bind (callD 1 g_is_count (consA (rdE 2 env) (M.ret []))) asB)) (notT (M.bind (chD leD leD (M.ret (.int 1)) (rdE 2 env) (c_MOST_ROOMS)) asB))) (M.no) (nxD env)) fun env => seqD (ifS (notT (M.bind (callD 3 g_are_ways (consA (rdE 1 env) (consA (rdE 2 env) (consA (rdE 3 env) (M.ret []))))) asB)) (M.no) (nxD env)) fun env => seqD (fldS ["Reader"] "own_letters" (rdE 0 env) (rdE 1 env) env) fun env => seqD (fldS ["Reader"] "own_rooms" (rdE 0 env) (rdE 2 env) env) fun env => seqD (fldS ["Reader"] "own_ways" (rdE 0 env) (M.bind (consA (M.bind (consA (rdE 3 env) (M.ret [])) sortedA) (M.ret [])) tupleD) env) fun env => fldS ["Reader"] "own_by" (rdE 0 env) (callD 1 g_numbers_by (consA (M.bind (rdE 0 env) (fldD ["Reader"] "own_ways")) (M.ret []))) env
noncomputable def g_Reader___init__ : List Dv → M Dv := fnM N_Reader___init__.length b_Reader___init__
noncomputable def b_want_row : En → M Fl := fun env => seqD (ifS (notT (M.bind (callD 2 g_is_row_of (consA (rdE 0 env) (consA (rdE 1 env) (M.ret [])))) asB)) (M.no) (nxD env)) fun env => retS (rdE 1 env)
noncomputable def g_want_row : List Dv → M Dv := fnM N_want_row.length b_want_row
noncomputable def b_is_run_along : En → M Fl := fun env => seqD (ifS (notT (M.bind (callD 2 g_is_told_run (consA (rdE 0 env) (consA (rdE 2 env) (M.ret [])))) asB)) (retS (M.ret (.bl false))) (nxD env)) fun env => seqD (asgS (tupG 2 (gsCons (setE 3) (gsCons (setE 4) (gsNil)))) (rdE 1 env) env) fun env => seqD (setS 5 (M.bind (M.bind (consA (M.bind (rdE 2 env) fun x => M.bind (M.ret (.int 0)) fun y => ixA x y) (M.ret [])) lenA) fun x => M.bind (M.bind (consA (rdE 3 env) (M.ret [])) lenA) fun y => subD x y) env) fun env => seqD (ifS (orT (M.bind (M.bind (rdE 5 env) fun x => M.bind (M.ret (.int 0)) fun y => ltD x y) asB) (orT (M.bind (M.bind (M.bind (rdE 5 env) fun x => M.bind (M.bind (consA (rdE 4 env) (M.ret [])) lenA) fun y => modD x y) fun x => M.bind (M.ret (.int 0)) fun y => neD x y) asB) (M.bind (M.bind (M.bind (M.bind (consA (M.bind (rdE 2 env) fun x => M.bind (M.ret (.int 1)) fun y => ixA x y) (M.ret [])) lenA) fun x => M.bind (M.bind (consA (rdE 4 env) (M.ret [])) lenA) fun y => modD x y) fun x => M.bind (M.ret (.int 0)) fun y => neD x y) asB))) (retS (M.ret (.bl false))) (nxD env)) fun env => seqD (setS 6 (M.bind (M.bind (consA (M.bind (rdE 2 env) fun x => M.bind (M.ret (.int 0)) fun y => ixA x y) (M.ret [])) listD) fun x => M.bind (M.bind (consA (M.bind (rdE 2 env) fun x => M.bind (M.ret (.int 1)) fun y => ixA x y) (M.ret [])) listD) fun y => addD x y) env) fun env => retS (M.bind (consA (lcD (enmD (consA (rdE 6 env) (M.ret []))) [7, 8] (tupG 2 (gsCons (setE 7) (gsCons (setE 8) (gsNil)))) (fun _ => M.ret true) (fun env => M.bind (M.bind (M.bind (M.bind (rdE 0 env) (fldD ["Reader"] "own_ways")) fun x => M.bind (rdE 8 env) fun y => ixA x y) fun x => M.bind (M.ret (.int 1)) fun y => ixA x y) fun x => M.bind (callD 2 g_letter_of (consA (rdE 1 env) (consA (rdE 7 env) (M.ret [])))) fun y => eqD x y) env) (M.ret [])) allD)
noncomputable def g_is_run_along : List Dv → M Dv := fnM N_is_run_along.length b_is_run_along
noncomputable def b_slips_of : En → M Fl := fun env => seqD (setS 2 (callD 1 g_want_reader (consA (rdE 0 env) (M.ret []))) env) fun env => seqD (ifS (notT (M.bind (callD 2 g_is_told_run (consA (rdE 2 env) (consA (rdE 1 env) (M.ret [])))) asB)) (M.no) (nxD env)) fun env => retS (callD 2 g_run_slips (consA (rdE 2 env) (consA (rdE 1 env) (M.ret []))))
noncomputable def g_slips_of : List Dv → M Dv := fnM N_slips_of.length b_slips_of
noncomputable def b_is_clean_along : En → M Fl := fun env => retS (andV (callD 3 g_is_run_along (consA (rdE 0 env) (consA (rdE 1 env) (consA (rdE 2 env) (M.ret []))))) (M.bind (callD 2 g_many_slips (consA (rdE 0 env) (consA (M.bind (rdE 2 env) fun x => M.bind (M.ret (.int 1)) fun y => ixA x y) (M.ret [])))) fun x => M.bind (M.ret (.int 0)) fun y => eqD x y))
noncomputable def g_is_clean_along : List Dv → M Dv := fnM N_is_clean_along.length b_is_clean_along
noncomputable def b_is_run : En → M Fl := fun env => seqD (setS 3 (callD 1 g_want_reader (consA (rdE 0 env) (M.ret []))) env) fun env => retS (callD 3 g_is_run_along (consA (rdE 3 env) (consA (callD 2 g_want_row (consA (M.bind (rdE 3 env) (fldD ["Reader"] "own_letters")) (consA (rdE 1 env) (M.ret [])))) (consA (rdE 2 env) (M.ret [])))))
noncomputable def g_is_run : List Dv → M Dv := fnM N_is_run.length b_is_run
noncomputable def b_is_clean_run : En → M Fl := fun env => seqD (setS 3 (callD 1 g_want_reader (consA (rdE 0 env) (M.ret []))) env) fun env => retS (callD 3 g_is_clean_along (consA (rdE 3 env) (consA (callD 2 g_want_row (consA (M.bind (rdE 3 env) (fldD ["Reader"] "own_letters")) (consA (rdE 1 env) (M.ret [])))) (consA (rdE 2 env) (M.ret [])))))
noncomputable def g_is_clean_run : List Dv → M Dv := fnM N_is_clean_run.length b_is_clean_run
noncomputable def b_law_right : En → M Fl := fun env => seqD (asgS (tupG 3 (gsCons (setE 1) (gsCons (setE 2) (gsCons (setE 3) (gsNil))))) (callD 3 g_law_reader (consA (rdE 0 env) (consA (M.bind (M.ret (.int 1)) fun x => M.bind (callD 2 g_law_draw (consA (rdE 0 env) (consA (M.ret (.int 2)) (M.ret [])))) fun y => addD x y) (consA (M.ret (.int 3)) (M.ret []))))) env) fun env => seqD (parS 4 5 (consA (M.bind (mkD "Reader" 3 g_Reader___init__ (consA (rdE 1 env) (consA (rdE 2 env) (consA (rdE 3 env) (M.ret []))))) fzD) (consA (callD 2 g_law_row (consA (rdE 0 env) (consA (rdE 1 env) (M.ret [])))) (M.ret []))) env) fun env => seqD (parS 6 7 (consA (callD 3 g_law_walk (consA (rdE 0 env) (consA (rdE 3 env) (consA (rdE 5 env) (M.ret []))))) (consA (callD 2 g_law_row (consA (rdE 0 env) (consA (rdE 1 env) (M.ret [])))) (M.ret []))) env) fun env => seqD (setS 8 (newD (consA (rdE 6 env) (consA (tupD (consA (M.bind (rdE 6 env) fun x => M.bind (M.ret (.int 0)) fun y => ixA x y) (consA (lstD (M.ret [])) (M.ret [])))) (consA (tupD (consA (M.bind (rdE 6 env) fun x => M.bind (M.ret (.int 1)) fun y => ixA x y) (consA (M.bind (rdE 6 env) fun x => M.bind (M.ret (.int 1)) fun y => ixA x y) (M.ret [])))) (consA (M.ret .non) (consA (M.ret (.bl true)) (consA (M.ret (.str "run")) (consA (lstD (M.ret [])) (consA (tupD (M.ret [])) (consA (tupD (consA (lstD (M.ret [])) (consA (lstD (consA (M.ret (.int 0)) (M.ret []))) (M.ret [])))) (consA (M.bind newT fzD) (M.ret [])))))))))))) env) fun env => seqD (forD (rng1 (consA (M.ret (.int 6)) (M.ret []))) (setE 9) (fun env => exprS (bmD appD (rdE 8 env) (consA (callD 3 g_law_bent (consA (rdE 0 env) (consA (rdE 6 env) (consA (rdE 3 env) (M.ret []))))) (M.ret []))) env) env) fun env => seqD (ifS (notT (M.bind (callD 3 g_law_is_run (consA (rdE 3 env) (consA (rdE 5 env) (consA (rdE 6 env) (M.ret []))))) asB)) (retS (M.ret (.bl false))) (nxD env)) fun env => seqD (forD (M.bind (rdE 8 env) srD) (setE 10) (fun env => forD (M.bind (lstD (consA (rdE 5 env) (consA (rdE 7 env) (consA (tupD (consA (M.bind (rdE 5 env) fun x => M.bind (M.ret (.int 0)) fun y => ixA x y) (consA (M.bind (M.bind (rdE 5 env) fun x => M.bind (M.ret (.int 1)) fun y => ixA x y) fun x => M.bind (M.ret (.int 2)) fun y => mulD x y) (M.ret [])))) (consA (tupD (consA (M.bind (M.bind (rdE 5 env) fun x => M.bind (M.ret (.int 0)) fun y => ixA x y) fun x => M.bind (M.bind (rdE 5 env) fun x => M.bind (M.ret (.int 1)) fun y => ixA x y) fun y => addD x y) (consA (M.bind (rdE 5 env) fun x => M.bind (M.ret (.int 1)) fun y => ixA x y) (M.ret [])))) (M.ret [])))))) srD) (setE 11) (fun env => seqD (parS 14 15 (consA (callD 3 g_law_is_run (consA (rdE 3 env) (consA (rdE 11 env) (consA (rdE 10 env) (M.ret []))))) (consA (M.bind (consA (rdE 10 env) (M.ret [])) reprA) (M.ret []))) env) fun env => seqD (setS 12 (ifE (M.bind (rdE 14 env) asB) (lcD (M.bind (rdE 10 env) srD) [16] (setE 16) (fun _ => M.ret true) (fun env => lcD (M.bind (rdE 16 env) srD) [17] (setE 17) (fun env => M.bind (M.bind (M.bind (M.bind (rdE 3 env) fun x => M.bind (rdE 17 env) fun y => ixA x y) fun x => M.bind (M.ret (.int 3)) fun y => ixA x y) fun x => M.bind (M.ret (.int 1)) fun y => eqD x y) asB) (fun env => rdE 17 env) env) env) (lstD (M.ret []))) env) fun env => seqD (setS 13 (andV (rdE 14 env) (M.bind (M.bind (rdE 12 env) fun x => M.bind (M.ret (.int 1)) fun y => ixA x y) fun x => M.bind (lstD (M.ret [])) fun y => eqD x y)) env) fun env => seqD (ifS (M.bind (M.bind (M.bind (consA (lstD (consA (callK 0 3 [2, 1, 0] 3 g_is_run (M.ret []) (consA (rdE 10 env) (consA (rdE 11 env) (consA (rdE 4 env) (M.ret []))))) (consA (callD 3 g_is_clean_run (consA (rdE 4 env) (consA (rdE 11 env) (consA (rdE 10 env) (M.ret []))))) (M.ret [])))) (M.ret [])) reprA) fun x => M.bind (M.bind (consA (lstD (consA (rdE 14 env) (consA (rdE 13 env) (M.ret [])))) (M.ret [])) reprA) fun y => neD x y) asB) (retS (M.ret (.bl false))) (nxD env)) fun env => ifS (orT (andT (M.bind (rdE 14 env) asB) (M.bind (M.bind (M.bind (consA (callD 2 g_slips_of (consA (rdE 4 env) (consA (rdE 10 env) (M.ret [])))) (M.ret [])) reprA) fun x => M.bind (M.bind (consA (tupD (consA (M.bind (consA (M.bind (rdE 12 env) fun x => M.bind (M.ret (.int 0)) fun y => ixA x y) (M.ret [])) lenA) (consA (M.bind (consA (M.bind (rdE 12 env) fun x => M.bind (M.ret (.int 1)) fun y => ixA x y) (M.ret [])) lenA) (M.ret [])))) (M.ret [])) reprA) fun y => neD x y) asB)) (M.bind (M.bind (M.bind (consA (rdE 10 env) (M.ret [])) reprA) fun x => M.bind (rdE 15 env) fun y => neD x y) asB)) (retS (M.ret (.bl false))) (nxD env)) env) env) fun env => seqD (setS 13 (M.bind (lcD (M.bind (M.bind (rdE 6 env) fun x => M.bind (M.ret (.int 1)) fun y => ixA x y) srD) [17] (setE 17) (fun env => M.bind (M.bind (M.bind (M.bind (rdE 3 env) fun x => M.bind (rdE 17 env) fun y => ixA x y) fun x => M.bind (M.ret (.int 3)) fun y => ixA x y) fun x => M.bind (M.ret (.int 1)) fun y => eqD x y) asB) (fun env => rdE 17 env) env) fun x => M.bind (lstD (M.ret [])) fun y => eqD x y) env) fun env => seqD (ifS (M.bind (M.bind (M.bind (consA (callK 0 3 [2, 1, 0] 3 g_is_clean_run (M.ret []) (consA (rdE 6 env) (consA (rdE 5 env) (consA (rdE 4 env) (M.ret []))))) (M.ret [])) reprA) fun x => M.bind (M.bind (consA (rdE 13 env) (M.ret [])) reprA) fun y => neD x y) asB) (retS (M.ret (.bl false))) (nxD env)) fun env => retS (andV (M.bind (callD 3 g_is_run (consA (rdE 4 env) (consA (rdE 5 env) (consA (rdE 6 env) (M.ret []))))) fun x => M.bind (M.ret (.bl true)) fun y => isD x y) (M.bind (M.bind (consA (callK 0 2 [1, 0] 2 g_slips_of (M.ret []) (consA (rdE 6 env) (consA (rdE 4 env) (M.ret [])))) (M.ret [])) reprA) fun x => M.bind (M.bind (consA (callD 2 g_slips_of (consA (rdE 4 env) (consA (rdE 6 env) (M.ret [])))) (M.ret [])) reprA) fun y => eqD x y))
noncomputable def g_law_right : List Dv → M Dv := fnM N_law_right.length b_law_right
noncomputable def b_law : En → M Fl := fun env => retS (callD 1 g_law_right (consA (callD 2 gl_law_pot (consA (rdE 0 env) (consA (M.ret (.int 0)) (M.ret [])))) (M.ret [])))
noncomputable def g_law : List Dv → M Dv := fnM N_law.length b_law
/-! ### what the top leaves -/
variable [IW : HasW]
structure Tx (K : PySem.W.Frag) (mg : Str → Option Value) where
  a_is_integer : Addr
  d_is_integer : FuncData
  F_is_integer : Fun K "is_integer" "is_integer" s_is_integer a_is_integer d_is_integer
  m_is_integer : mg "is_integer" = some (.ref a_is_integer)
  B_is_integer : Binds K d_is_integer ["value"] []
  a_is_list : Addr
  d_is_list : FuncData
  F_is_list : Fun K "is_list" "is_list" s_is_list a_is_list d_is_list
  m_is_list : mg "is_list" = some (.ref a_is_list)
  B_is_list : Binds K d_is_list ["value"] []
  a_numbers_by : Addr
  d_numbers_by : FuncData
  F_numbers_by : Fun K "numbers_by" "numbers_by" s_numbers_by a_numbers_by d_numbers_by
  m_numbers_by : mg "numbers_by" = some (.ref a_numbers_by)
  B_numbers_by : Binds K d_numbers_by ["ways"] []
  a_want_reader : Addr
  d_want_reader : FuncData
  F_want_reader : Fun K "want_reader" "want_reader" s_want_reader a_want_reader d_want_reader
  m_want_reader : mg "want_reader" = some (.ref a_want_reader)
  B_want_reader : Binds K d_want_reader ["value"] []
  a_letter_of : Addr
  d_letter_of : FuncData
  F_letter_of : Fun K "letter_of" "letter_of" s_letter_of a_letter_of d_letter_of
  m_letter_of : mg "letter_of" = some (.ref a_letter_of)
  B_letter_of : Binds K d_letter_of ["row", "place"] []
  a_are_joined_ways : Addr
  d_are_joined_ways : FuncData
  F_are_joined_ways : Fun K "are_joined_ways" "are_joined_ways" s_are_joined_ways a_are_joined_ways d_are_joined_ways
  m_are_joined_ways : mg "are_joined_ways" = some (.ref a_are_joined_ways)
  B_are_joined_ways : Binds K d_are_joined_ways ["reader", "ways"] []
  a_many_slips : Addr
  d_many_slips : FuncData
  F_many_slips : Fun K "many_slips" "many_slips" s_many_slips a_many_slips d_many_slips
  m_many_slips : mg "many_slips" = some (.ref a_many_slips)
  B_many_slips : Binds K d_many_slips ["reader", "ways"] []
  a_law_pot : Addr
  d_law_pot : FuncData
  F_law_pot : Fun K "_law_pot" "_law_pot" s_law_pot a_law_pot d_law_pot
  m_law_pot : mg "_law_pot" = some (.ref a_law_pot)
  B_law_pot : Binds K d_law_pot ["script", "k"] []
  a_law_draw : Addr
  d_law_draw : FuncData
  F_law_draw : Fun K "_law_draw" "_law_draw" s_law_draw a_law_draw d_law_draw
  m_law_draw : mg "_law_draw" = some (.ref a_law_draw)
  B_law_draw : Binds K d_law_draw ["pot", "many"] []
  a_law_letter : Addr
  d_law_letter : FuncData
  F_law_letter : Fun K "_law_letter" "_law_letter" s_law_letter a_law_letter d_law_letter
  m_law_letter : mg "_law_letter" = some (.ref a_law_letter)
  B_law_letter : Binds K d_law_letter ["row", "place"] []
  a_law_is_list : Addr
  d_law_is_list : FuncData
  F_law_is_list : Fun K "_law_is_list" "_law_is_list" s_law_is_list a_law_is_list d_law_is_list
  m_law_is_list : mg "_law_is_list" = some (.ref a_law_is_list)
  B_law_is_list : Binds K d_law_is_list ["value", "ways", "least", "most"] []
  a_is_count : Addr
  d_is_count : FuncData
  F_is_count : Fun K "is_count" "is_count" s_is_count a_is_count d_is_count
  m_is_count : mg "is_count" = some (.ref a_is_count)
  B_is_count : Binds K d_is_count ["value"] []
  a_run_slips : Addr
  d_run_slips : FuncData
  F_run_slips : Fun K "run_slips" "run_slips" s_run_slips a_run_slips d_run_slips
  m_run_slips : mg "run_slips" = some (.ref a_run_slips)
  B_run_slips : Binds K d_run_slips ["reader", "run"] []
  a_law_pick : Addr
  d_law_pick : FuncData
  F_law_pick : Fun K "_law_pick" "_law_pick" s_law_pick a_law_pick d_law_pick
  m_law_pick : mg "_law_pick" = some (.ref a_law_pick)
  B_law_pick : Binds K d_law_pick ["pot", "some"] []
  a_law_reader : Addr
  d_law_reader : FuncData
  F_law_reader : Fun K "_law_reader" "_law_reader" s_law_reader a_law_reader d_law_reader
  m_law_reader : mg "_law_reader" = some (.ref a_law_reader)
  B_law_reader : Binds K d_law_reader ["pot", "letters", "most"] []
  a_law_letters : Addr
  d_law_letters : FuncData
  F_law_letters : Fun K "_law_letters" "_law_letters" s_law_letters a_law_letters d_law_letters
  m_law_letters : mg "_law_letters" = some (.ref a_law_letters)
  B_law_letters : Binds K d_law_letters ["pot", "letters", "many"] []
  a_law_is_run : Addr
  d_law_is_run : FuncData
  F_law_is_run : Fun K "_law_is_run" "_law_is_run" s_law_is_run a_law_is_run d_law_is_run
  m_law_is_run : mg "_law_is_run" = some (.ref a_law_is_run)
  B_law_is_run : Binds K d_law_is_run ["ways", "row", "value"] []
  a_want_letters : Addr
  d_want_letters : FuncData
  F_want_letters : Fun K "want_letters" "want_letters" s_want_letters a_want_letters d_want_letters
  m_want_letters : mg "want_letters" = some (.ref a_want_letters)
  B_want_letters : Binds K d_want_letters ["value"] []
  a_is_way_of : Addr
  d_is_way_of : FuncData
  F_is_way_of : Fun K "is_way_of" "is_way_of" s_is_way_of a_is_way_of d_is_way_of
  m_is_way_of : mg "is_way_of" = some (.ref a_is_way_of)
  B_is_way_of : Binds K d_is_way_of ["letters", "rooms", "value"] []
  a_are_letters : Addr
  d_are_letters : FuncData
  F_are_letters : Fun K "are_letters" "are_letters" s_are_letters a_are_letters d_are_letters
  m_are_letters : mg "are_letters" = some (.ref a_are_letters)
  B_are_letters : Binds K d_are_letters ["letters", "value"] []
  a_is_ways_list : Addr
  d_is_ways_list : FuncData
  F_is_ways_list : Fun K "is_ways_list" "is_ways_list" s_is_ways_list a_is_ways_list d_is_ways_list
  m_is_ways_list : mg "is_ways_list" = some (.ref a_is_ways_list)
  B_is_ways_list : Binds K d_is_ways_list ["reader", "value", "least", "most"] []
  a_law_row : Addr
  d_law_row : FuncData
  F_law_row : Fun K "_law_row" "_law_row" s_law_row a_law_row d_law_row
  m_law_row : mg "_law_row" = some (.ref a_law_row)
  B_law_row : Binds K d_law_row ["pot", "letters"] []
  a_law_walk : Addr
  d_law_walk : FuncData
  F_law_walk : Fun K "_law_walk" "_law_walk" s_law_walk a_law_walk d_law_walk
  m_law_walk : mg "_law_walk" = some (.ref a_law_walk)
  B_law_walk : Binds K d_law_walk ["pot", "ways", "row"] []
  a_law_bent : Addr
  d_law_bent : FuncData
  F_law_bent : Fun K "_law_bent" "_law_bent" s_law_bent a_law_bent d_law_bent
  m_law_bent : mg "_law_bent" = some (.ref a_law_bent)
  B_law_bent : Binds K d_law_bent ["pot", "told", "ways"] []
  a_are_ways : Addr
  d_are_ways : FuncData
  F_are_ways : Fun K "are_ways" "are_ways" s_are_ways a_are_ways d_are_ways
  m_are_ways : mg "are_ways" = some (.ref a_are_ways)
  B_are_ways : Binds K d_are_ways ["letters", "rooms", "value"] []
  a_is_row_of : Addr
  d_is_row_of : FuncData
  F_is_row_of : Fun K "is_row_of" "is_row_of" s_is_row_of a_is_row_of d_is_row_of
  m_is_row_of : mg "is_row_of" = some (.ref a_is_row_of)
  B_is_row_of : Binds K d_is_row_of ["letters", "value"] []
  a_is_told_run : Addr
  d_is_told_run : FuncData
  F_is_told_run : Fun K "is_told_run" "is_told_run" s_is_told_run a_is_told_run d_is_told_run
  m_is_told_run : mg "is_told_run" = some (.ref a_is_told_run)
  B_is_told_run : Binds K d_is_told_run ["reader", "value"] []
  a_Reader___init__ : Addr
  d_Reader___init__ : FuncData
  F_Reader___init__ : Fun K "__init__" "Reader.__init__" s_Reader___init__ a_Reader___init__ d_Reader___init__
  B_Reader___init__ : Binds K d_Reader___init__ ["self", "letters", "rooms", "ways"] []
  a_want_row : Addr
  d_want_row : FuncData
  F_want_row : Fun K "want_row" "want_row" s_want_row a_want_row d_want_row
  m_want_row : mg "want_row" = some (.ref a_want_row)
  B_want_row : Binds K d_want_row ["letters", "value"] []
  a_is_run_along : Addr
  d_is_run_along : FuncData
  F_is_run_along : Fun K "is_run_along" "is_run_along" s_is_run_along a_is_run_along d_is_run_along
  m_is_run_along : mg "is_run_along" = some (.ref a_is_run_along)
  B_is_run_along : Binds K d_is_run_along ["reader", "row", "value"] []
  a_slips_of : Addr
  d_slips_of : FuncData
  F_slips_of : Fun K "slips_of" "slips_of" s_slips_of a_slips_of d_slips_of
  m_slips_of : mg "slips_of" = some (.ref a_slips_of)
  B_slips_of : Binds K d_slips_of ["reader", "run"] []
  a_is_clean_along : Addr
  d_is_clean_along : FuncData
  F_is_clean_along : Fun K "is_clean_along" "is_clean_along" s_is_clean_along a_is_clean_along d_is_clean_along
  m_is_clean_along : mg "is_clean_along" = some (.ref a_is_clean_along)
  B_is_clean_along : Binds K d_is_clean_along ["reader", "row", "value"] []
  a_is_run : Addr
  d_is_run : FuncData
  F_is_run : Fun K "is_run" "is_run" s_is_run a_is_run d_is_run
  m_is_run : mg "is_run" = some (.ref a_is_run)
  B_is_run : Binds K d_is_run ["reader", "row", "value"] []
  a_is_clean_run : Addr
  d_is_clean_run : FuncData
  F_is_clean_run : Fun K "is_clean_run" "is_clean_run" s_is_clean_run a_is_clean_run d_is_clean_run
  m_is_clean_run : mg "is_clean_run" = some (.ref a_is_clean_run)
  B_is_clean_run : Binds K d_is_clean_run ["reader", "row", "value"] []
  a_law_right : Addr
  d_law_right : FuncData
  F_law_right : Fun K "_law_right" "_law_right" s_law_right a_law_right d_law_right
  m_law_right : mg "_law_right" = some (.ref a_law_right)
  B_law_right : Binds K d_law_right ["pot"] []
  a_law : Addr
  d_law : FuncData
  F_law : Fun K "law" "law" s_law a_law d_law
  m_law : mg "law" = some (.ref a_law)
  B_law : Binds K d_law ["script"] []
  C_Reader : Addr
  c_Reader : IW.cls "Reader" = some C_Reader
  m_Reader : mg "Reader" = some (.ref C_Reader)
  k_Reader : Mk K C_Reader a_Reader___init__
  n_Reader_own_by : NoAttr K C_Reader "own_by"
  n_Reader_own_letters : NoAttr K C_Reader "own_letters"
  n_Reader_own_rooms : NoAttr K C_Reader "own_rooms"
  n_Reader_own_ways : NoAttr K C_Reader "own_ways"
  hF : ClsF K
  K_slips_of_0_run_reader : KB d_slips_of ["reader", "run"] ["run", "reader"] 0 [1, 0]
  K_is_clean_run_0_value_row_reader : KB d_is_clean_run ["reader", "row", "value"] ["value", "row", "reader"] 0 [2, 1, 0]
  K_is_run_0_value_row_reader : KB d_is_run ["reader", "row", "value"] ["value", "row", "reader"] 0 [2, 1, 0]
  n_abs : mg "abs" = none
  n_all : mg "all" = none
  n_bool : mg "bool" = none
  n_divmod : mg "divmod" = none
  n_enumerate : mg "enumerate" = none
  n_int : mg "int" = none
  n_isinstance : mg "isinstance" = none
  n_len : mg "len" = none
  n_list : mg "list" = none
  n_max : mg "max" = none
  n_range : mg "range" = none
  n_repr : mg "repr" = none
  n_set : mg "set" = none
  n_sorted : mg "sorted" = none
  n_sum : mg "sum" = none
  n_tuple : mg "tuple" = none
  v_MOST_BEGIN : ∃ v u, mg "MOST_BEGIN" = some u ∧ RelV v u ∧ ∀ hd H io S, Dn ⟨K, hd⟩ H io S (.int 40) v
  v_MOST_HEAD : ∃ v u, mg "MOST_HEAD" = some u ∧ RelV v u ∧ ∀ hd H io S, Dn ⟨K, hd⟩ H io S (.int 1000) v
  v_MOST_LETTERS : ∃ v u, mg "MOST_LETTERS" = some u ∧ RelV v u ∧ ∀ hd H io S, Dn ⟨K, hd⟩ H io S (.int 4) v
  v_MOST_LOOP : ∃ v u, mg "MOST_LOOP" = some u ∧ RelV v u ∧ ∀ hd H io S, Dn ⟨K, hd⟩ H io S (.int 960) v
  v_MOST_ROOMS : ∃ v u, mg "MOST_ROOMS" = some u ∧ RelV v u ∧ ∀ hd H io S, Dn ⟨K, hd⟩ H io S (.int 24) v
  v_MOST_WAYS : ∃ v u, mg "MOST_WAYS" = some u ∧ RelV v u ∧ ∀ hd H io S, Dn ⟨K, hd⟩ H io S (.int 400) v
  v_WAY_PARTS : ∃ v u, mg "WAY_PARTS" = some u ∧ RelV v u ∧ ∀ hd H io S, Dn ⟨K, hd⟩ H io S (.int 4) v
theorem Tx.e_MOST_BEGIN {K : PySem.W.Frag} {mg : Str → Option Value} (T : Tx K mg) {X : Cx} {pos : Pos} (hK : X.K = K) (hm : X.mg = mg) (hg : Gl X "MOST_BEGIN") : ED X (.Name "MOST_BEGIN" pos) (fun _ => c_MOST_BEGIN) := by
  obtain ⟨v, u, h, ru, dv⟩ := T.v_MOST_BEGIN
  subst hK
  exact ed_c (v := v) (w := .int 40) (pe_glob hg (by rw [hm]; exact h) ru) dv
theorem Tx.e_MOST_HEAD {K : PySem.W.Frag} {mg : Str → Option Value} (T : Tx K mg) {X : Cx} {pos : Pos} (hK : X.K = K) (hm : X.mg = mg) (hg : Gl X "MOST_HEAD") : ED X (.Name "MOST_HEAD" pos) (fun _ => c_MOST_HEAD) := by
  obtain ⟨v, u, h, ru, dv⟩ := T.v_MOST_HEAD
  subst hK
  exact ed_c (v := v) (w := .int 1000) (pe_glob hg (by rw [hm]; exact h) ru) dv
theorem Tx.e_MOST_LETTERS {K : PySem.W.Frag} {mg : Str → Option Value} (T : Tx K mg) {X : Cx} {pos : Pos} (hK : X.K = K) (hm : X.mg = mg) (hg : Gl X "MOST_LETTERS") : ED X (.Name "MOST_LETTERS" pos) (fun _ => c_MOST_LETTERS) := by
  obtain ⟨v, u, h, ru, dv⟩ := T.v_MOST_LETTERS
  subst hK
  exact ed_c (v := v) (w := .int 4) (pe_glob hg (by rw [hm]; exact h) ru) dv
theorem Tx.e_MOST_LOOP {K : PySem.W.Frag} {mg : Str → Option Value} (T : Tx K mg) {X : Cx} {pos : Pos} (hK : X.K = K) (hm : X.mg = mg) (hg : Gl X "MOST_LOOP") : ED X (.Name "MOST_LOOP" pos) (fun _ => c_MOST_LOOP) := by
  obtain ⟨v, u, h, ru, dv⟩ := T.v_MOST_LOOP
  subst hK
  exact ed_c (v := v) (w := .int 960) (pe_glob hg (by rw [hm]; exact h) ru) dv
theorem Tx.e_MOST_ROOMS {K : PySem.W.Frag} {mg : Str → Option Value} (T : Tx K mg) {X : Cx} {pos : Pos} (hK : X.K = K) (hm : X.mg = mg) (hg : Gl X "MOST_ROOMS") : ED X (.Name "MOST_ROOMS" pos) (fun _ => c_MOST_ROOMS) := by
  obtain ⟨v, u, h, ru, dv⟩ := T.v_MOST_ROOMS
  subst hK
  exact ed_c (v := v) (w := .int 24) (pe_glob hg (by rw [hm]; exact h) ru) dv
theorem Tx.e_MOST_WAYS {K : PySem.W.Frag} {mg : Str → Option Value} (T : Tx K mg) {X : Cx} {pos : Pos} (hK : X.K = K) (hm : X.mg = mg) (hg : Gl X "MOST_WAYS") : ED X (.Name "MOST_WAYS" pos) (fun _ => c_MOST_WAYS) := by
  obtain ⟨v, u, h, ru, dv⟩ := T.v_MOST_WAYS
  subst hK
  exact ed_c (v := v) (w := .int 400) (pe_glob hg (by rw [hm]; exact h) ru) dv
theorem Tx.e_WAY_PARTS {K : PySem.W.Frag} {mg : Str → Option Value} (T : Tx K mg) {X : Cx} {pos : Pos} (hK : X.K = K) (hm : X.mg = mg) (hg : Gl X "WAY_PARTS") : ED X (.Name "WAY_PARTS" pos) (fun _ => c_WAY_PARTS) := by
  obtain ⟨v, u, h, ru, dv⟩ := T.v_WAY_PARTS
  subst hK
  exact ed_c (v := v) (w := .int 4) (pe_glob hg (by rw [hm]; exact h) ru) dv
end K31
namespace K31
open PySem PySem.Spec PyProof.Rows L2 DD
/-! ### the defs do what their mirrors do -/
section
variable [IW : HasW] {K : PySem.W.Frag} {mg : Str → Option Value} {base : Heap}
theorem ok_is_integer (T : Tx K mg) : FnG IW.P IW.w K mg base 1 T.a_is_integer T.d_is_integer ["value"] (spD K 1 g_is_integer) := by
  refine fnD (N := N_is_integer) (m := b_is_integer) T.F_is_integer sc_is_integer fun cdv A outer s H E hr hg => ?_
  have hgd : A.guards = some [] := hg
  have hu := hr.units
  exact (bd_one (sd_ret (ed_and (ed_callB (cd_isiA T.hF rfl) (by rfl) T.n_isinstance (by decide +kernel) (ad_cons (ed_v (pv 0)) (ad_cons (ed_c (pe_bltn (v := .ty "int") (u := .type "int") (by rfl) T.n_int (by decide +kernel) rfl) fun _ _ _ _ => rfl) ad_nil))) (ed_one (ed_not (ed_callB (cd_isiA T.hF rfl) (by rfl) T.n_isinstance (by decide +kernel) (ad_cons (ed_v (pv 0)) (ad_cons (ed_c (pe_bltn (v := .ty "bool") (u := .type "bool") (by rfl) T.n_bool (by decide +kernel) rfl) fun _ _ _ _ => rfl) ad_nil))))))))
theorem ok_is_list (T : Tx K mg) : FnG IW.P IW.w K mg base 1 T.a_is_list T.d_is_list ["value"] (spD K 1 g_is_list) := by
  refine fnD (N := N_is_list) (m := b_is_list) T.F_is_list sc_is_list fun cdv A outer s H E hr hg => ?_
  have hgd : A.guards = some [] := hg
  have hu := hr.units
  exact (bd_one (sd_ret (ed_callB (cd_isiA T.hF rfl) (by rfl) T.n_isinstance (by decide +kernel) (ad_cons (ed_v (pv 0)) (ad_cons (ed_tup (ad_cons (ed_c (pe_bltn (v := .ty "list") (u := .type "list") (by rfl) T.n_list (by decide +kernel) rfl) fun _ _ _ _ => rfl) (ad_cons (ed_c (pe_bltn (v := .ty "tuple") (u := .type "tuple") (by rfl) T.n_tuple (by decide +kernel) rfl) fun _ _ _ _ => rfl) ad_nil))) ad_nil)))))
theorem ok_numbers_by (T : Tx K mg) : FnG IW.P IW.w K mg base 1 T.a_numbers_by T.d_numbers_by ["ways"] (spD K 1 g_numbers_by) := by
  refine fnD (N := N_numbers_by) (m := b_numbers_by) T.F_numbers_by sc_numbers_by fun cdv A outer s H E hr hg => ?_
  have hgd : A.guards = some [] := hg
  have hu := hr.units
  exact (bd_cons (sd_set (i := 1) (ps_set (i := 1) sc_numbers_by.nd rfl (by first | exact .inl rfl | exact .inr rfl) ed_newT)) (bd_cons (sd_for (L := [2, 3]) PassesOwn.never rfl (id_enm (by rfl) T.n_enumerate (ad_cons (ed_v (pv 0)) ad_nil)) (gd_tup rfl (gsd_cons (gd_name (pg_name (i := 2) sc_numbers_by.nd rfl (by first | exact .inl rfl | exact .inr rfl)) (by decide)) (gsd_cons (gd_name (pg_name (i := 3) sc_numbers_by.nd rfl (by first | exact .inl rfl | exact .inr rfl)) (by decide)) gsd_nil))) (bd_one (sd_asg (L := []) (ps_asg (ed_bin od_add (ed_km rfl rfl PySem.F.slot_dict_get PySem.F.type_dict_get (mt_get rfl rfl hu) (ed_v (pv 1)) (ad_cons (ed_slice (ed_v (pv 3)) pd_none (pd_some ed_int)) (ad_cons (ed_tup ad_nil) ad_nil))) (ed_tup (ad_cons (ed_v (pv 2)) ad_nil))) (gd_subA rfl rfl hu (ed_v (pv 1)) (ed_slice (ed_v (pv 3)) pd_none (pd_some ed_int))))))) (bd_one (sd_ret (ed_v (pv 1))))))
theorem ok_want_reader (T : Tx K mg) : FnG IW.P IW.w K mg base 1 T.a_want_reader T.d_want_reader ["value"] (spD K 1 g_want_reader) := by
  refine fnD (N := N_want_reader) (m := b_want_reader) T.F_want_reader sc_want_reader fun cdv A outer s H E hr hg => ?_
  have hgd : A.guards = some [] := hg
  have hu := hr.units
  exact (bd_cons (sd_if (td_not (td_val (ed_callB (cd_isiA T.hF rfl) (by rfl) T.n_isinstance (by decide +kernel) (ad_cons (ed_v (pv 0)) (ad_cons (ed_c (v := .ref T.C_Reader) (pe_glob (by rfl) T.m_Reader rfl) fun _ _ _ _ => ⟨_, T.c_Reader, rfl⟩) ad_nil))))) (bd_one sd_never) bd_nil) (bd_one (sd_ret (ed_v (pv 0)))))
theorem ok_letter_of (T : Tx K mg) : FnG IW.P IW.w K mg base 1 T.a_letter_of T.d_letter_of ["row", "place"] (spD K 2 g_letter_of) := by
  refine fnD (N := N_letter_of) (m := b_letter_of) T.F_letter_of sc_letter_of fun cdv A outer s H E hr hg => ?_
  have hgd : A.guards = some [] := hg
  have hu := hr.units
  exact (bd_cons (sd_asg (L := [2, 3]) (ps_asg (ed_v (pv 0)) (gd_tup rfl (gsd_cons (gd_name (pg_name (i := 2) sc_letter_of.nd rfl (by first | exact .inl rfl | exact .inr rfl)) (by decide)) (gsd_cons (gd_name (pg_name (i := 3) sc_letter_of.nd rfl (by first | exact .inl rfl | exact .inr rfl)) (by decide)) gsd_nil))))) (bd_one (sd_ret (ed_if (td_cmp od_lt (ed_v (pv 1)) (ed_callB (cd_lenA rfl rfl) (by rfl) T.n_len (by decide +kernel) (ad_cons (ed_v (pv 2)) ad_nil)) (nomark _)) (ed_ixA rfl rfl hu (ed_v (pv 2)) (ed_v (pv 1))) (ed_ixA rfl rfl hu (ed_v (pv 3)) (ed_bin od_mod (ed_bin od_sub (ed_v (pv 1)) (ed_callB (cd_lenA rfl rfl) (by rfl) T.n_len (by decide +kernel) (ad_cons (ed_v (pv 2)) ad_nil))) (ed_callB (cd_lenA rfl rfl) (by rfl) T.n_len (by decide +kernel) (ad_cons (ed_v (pv 3)) ad_nil))))))))
theorem ok_are_joined_ways (T : Tx K mg) : FnG IW.P IW.w K mg base 1 T.a_are_joined_ways T.d_are_joined_ways ["reader", "ways"] (spD K 2 g_are_joined_ways) := by
  refine fnD (N := N_are_joined_ways) (m := b_are_joined_ways) T.F_are_joined_ways sc_are_joined_ways fun cdv A outer s H E hr hg => ?_
  have hgd : A.guards = some [] := hg
  have hu := hr.units
  exact (bd_cons (sd_set (i := 2) (ps_set (i := 2) sc_are_joined_ways.nd rfl (by first | exact .inl rfl | exact .inr rfl) ed_int)) (bd_cons (sd_for (L := [3]) PassesOwn.never rfl (id_seq (ed_v (pv 1))) (gd_name (pg_name (i := 3) sc_are_joined_ways.nd rfl (by first | exact .inl rfl | exact .inr rfl)) (by decide)) (bd_cons (sd_asg (L := [4, 5, 6, 7]) (ps_asg (ed_ixA rfl rfl hu (ed_fld T.hF (na_cons T.c_Reader T.n_Reader_own_ways na_nil) (ed_v (pv 0))) (ed_v (pv 3))) (gd_tup rfl (gsd_cons (gd_name (pg_name (i := 4) sc_are_joined_ways.nd rfl (by first | exact .inl rfl | exact .inr rfl)) (by decide)) (gsd_cons (gd_name (pg_name (i := 5) sc_are_joined_ways.nd rfl (by first | exact .inl rfl | exact .inr rfl)) (by decide)) (gsd_cons (gd_name (pg_name (i := 6) sc_are_joined_ways.nd rfl (by first | exact .inl rfl | exact .inr rfl)) (by decide)) (gsd_cons (gd_name (pg_name (i := 7) sc_are_joined_ways.nd rfl (by first | exact .inl rfl | exact .inr rfl)) (by decide)) gsd_nil))))))) (bd_cons (sd_if (td_cmp (od_ne hu) (ed_v (pv 4)) (ed_v (pv 2)) (nomark _)) (bd_one (sd_ret ed_bl)) bd_nil) (bd_one (sd_set (i := 2) (ps_set (i := 2) sc_are_joined_ways.nd rfl (by first | exact .inl rfl | exact .inr rfl) (ed_v (pv 6)))))))) (bd_one (sd_ret ed_bl))))
theorem ok_many_slips (T : Tx K mg) : FnG IW.P IW.w K mg base 1 T.a_many_slips T.d_many_slips ["reader", "ways"] (spD K 2 g_many_slips) := by
  refine fnD (N := N_many_slips) (m := b_many_slips) T.F_many_slips sc_many_slips fun cdv A outer s H E hr hg => ?_
  have hgd : A.guards = some [] := hg
  have hu := hr.units
  exact (bd_one (sd_ret (ed_callB (cd_sum rfl) (by rfl) T.n_sum (by decide +kernel) (ad_cons (ed_lc (own := [("number", 2)]) rfl sc_many_slips.nd (id_seq (ed_v (pv 1))) (blkOk_by (own := [("number", 2)]) (N := N_many_slips) (sc := defScope s_many_slips) (by decide +kernel)) (fun _ _ _ _ _ => (gd_name (pg_name (i := 2) sc_many_slips.nd rfl (by first | exact .inl rfl | exact .inr rfl)) (by decide))) (fun _ _ _ _ _ => (ed_ixA rfl rfl hu (ed_ixA rfl rfl hu (ed_fld T.hF (na_cons T.c_Reader T.n_Reader_own_ways na_nil) (ed_v (pv 0))) (ed_v (pv 2))) ed_int))) ad_nil))))
theorem okL_law_pot (T : Tx K mg) : FnG IW.P IW.w K mg base 1 T.a_law_pot T.d_law_pot ["script", "k"] (spD K 2 gl_law_pot) := by
  refine fnDL (N := N_law_pot) (m := bl_law_pot) T.F_law_pot sc_law_pot fun cdv A outer s H E hr hg => ?_
  have hgd : A.guards = some [] := hg
  have hu := hr.units
  exact (bd_cons (sd_set (i := 2) (ps_set (i := 2) sc_law_pot.nd rfl (by first | exact .inl rfl | exact .inr rfl) (ed_if (td_cmp od_lt (ed_v (pv 1)) (ed_callB (cd_lenA rfl rfl) (by rfl) T.n_len (by decide +kernel) (ad_cons (ed_v (pv 0)) ad_nil)) (nomark _)) (ed_callB cd_abs (by rfl) T.n_abs (by decide +kernel) (ad_cons (ed_ixA rfl rfl hu (ed_v (pv 0)) (ed_v (pv 1))) ad_nil)) (ed_bin od_add (ed_bin od_mul ed_int (ed_v (pv 1))) ed_int)))) (bd_cons (sd_set (i := 3) (ps_set (i := 3) sc_law_pot.nd rfl (by first | exact .inl rfl | exact .inr rfl) (ed_bin od_add (ed_bin od_mod (ed_callTy cd_int (by rfl) T.n_int (by decide +kernel) (ad_cons (ed_bin od_add (ed_bin od_add (ed_bin od_mul (ed_bin od_mod (ed_callTy cd_int (by rfl) T.n_int (by decide +kernel) (ad_cons (ed_v (pv 2)) ad_nil)) ed_int) ed_int) (ed_bin od_mul ed_int (ed_v (pv 1)))) ed_int) ad_nil)) ed_int) ed_int))) (bd_one (sd_ret (ed_new (ad_cons (ed_callB (cd_max rfl) (by rfl) T.n_max (by decide +kernel) (ad_cons ed_int (ad_cons (ed_bin od_sub (ed_v (pv 2)) (ed_bin od_pow ed_int ed_int)) ad_nil))) (ad_cons (ed_v (pv 3)) ad_nil)))))))
theorem ok_law_draw (T : Tx K mg) : FnG IW.P IW.w K mg base 1 T.a_law_draw T.d_law_draw ["pot", "many"] (spD K 2 g_law_draw) := by
  refine fnD (N := N_law_draw) (m := b_law_draw) T.F_law_draw sc_law_draw fun cdv A outer s H E hr hg => ?_
  have hgd : A.guards = some [] := hg
  have hu := hr.units
  exact (bd_cons (sd_if (td_cmp od_gt (ed_ixA rfl rfl hu (ed_v (pv 0)) ed_int) ed_int (nomark _)) (bd_cons (sd_asg (L := [2]) (ps_asg (ed_callB cd_divmod (by rfl) T.n_divmod (by decide +kernel) (ad_cons (ed_ixA rfl rfl hu (ed_v (pv 0)) ed_int) (ad_cons (ed_v (pv 1)) ad_nil))) (gd_tup rfl (gsd_cons (gd_subA rfl rfl hu (ed_v (pv 0)) ed_int) (gsd_cons (gd_name (pg_name (i := 2) sc_law_draw.nd rfl (by first | exact .inl rfl | exact .inr rfl)) (by decide)) gsd_nil))))) (bd_one (sd_ret (ed_v (pv 2))))) bd_nil) (bd_cons (sd_asg (L := []) (ps_asg (ed_bin od_mod (ed_callTy cd_int (by rfl) T.n_int (by decide +kernel) (ad_cons (ed_bin od_mul (ed_ixA rfl rfl hu (ed_v (pv 0)) ed_int) ed_int) ad_nil)) ed_int) (gd_subA rfl rfl hu (ed_v (pv 0)) ed_int))) (bd_one (sd_ret (ed_bin od_mod (ed_callTy cd_int (by rfl) T.n_int (by decide +kernel) (ad_cons (ed_bin od_fdiv (ed_ixA rfl rfl hu (ed_v (pv 0)) ed_int) ed_int) ad_nil)) (ed_v (pv 1)))))))
theorem ok_law_letter (T : Tx K mg) : FnG IW.P IW.w K mg base 1 T.a_law_letter T.d_law_letter ["row", "place"] (spD K 2 g_law_letter) := by
  refine fnD (N := N_law_letter) (m := b_law_letter) T.F_law_letter sc_law_letter fun cdv A outer s H E hr hg => ?_
  have hgd : A.guards = some [] := hg
  have hu := hr.units
  exact (bd_cons (sd_asg (L := [2, 3]) (ps_asg (ed_v (pv 0)) (gd_tup rfl (gsd_cons (gd_name (pg_name (i := 2) sc_law_letter.nd rfl (by first | exact .inl rfl | exact .inr rfl)) (by decide)) (gsd_cons (gd_name (pg_name (i := 3) sc_law_letter.nd rfl (by first | exact .inl rfl | exact .inr rfl)) (by decide)) gsd_nil))))) (bd_cons (sd_par (i := 4) (j := 5) (ps_par rfl sc_law_letter.nd rfl rfl (by decide) rfl rfl (ad_cons (ed_callB (cd_lenA rfl rfl) (by rfl) T.n_len (by decide +kernel) (ad_cons (ed_v (pv 2)) ad_nil)) (ad_cons (ed_callB (cd_lenA rfl rfl) (by rfl) T.n_len (by decide +kernel) (ad_cons (ed_v (pv 3)) ad_nil)) ad_nil)) (by rfl))) (bd_one (sd_ret (ed_if (td_cmp od_lt (ed_v (pv 1)) (ed_v (pv 4)) (nomark _)) (ed_ixA rfl rfl hu (ed_v (pv 2)) (ed_v (pv 1))) (ed_ixA rfl rfl hu (ed_v (pv 3)) (ed_bin od_mod (ed_callTy cd_int (by rfl) T.n_int (by decide +kernel) (ad_cons (ed_bin od_sub (ed_v (pv 1)) (ed_v (pv 4))) ad_nil)) (ed_v (pv 5)))))))))
theorem ok_law_is_list (T : Tx K mg) : FnG IW.P IW.w K mg base 1 T.a_law_is_list T.d_law_is_list ["value", "ways", "least", "most"] (spD K 4 g_law_is_list) := by
  refine fnD (N := N_law_is_list) (m := b_law_is_list) T.F_law_is_list sc_law_is_list fun cdv A outer s H E hr hg => ?_
  have hgd : A.guards = some [] := hg
  have hu := hr.units
  exact (bd_cons (sd_if (WD.td (wd_or (td_not (td_val (ed_callB (cd_isiA T.hF rfl) (by rfl) T.n_isinstance (by decide +kernel) (ad_cons (ed_v (pv 0)) (ad_cons (ed_tup (ad_cons (ed_c (pe_bltn (v := .ty "list") (u := .type "list") (by rfl) T.n_list (by decide +kernel) rfl) fun _ _ _ _ => rfl) (ad_cons (ed_c (pe_bltn (v := .ty "tuple") (u := .type "tuple") (by rfl) T.n_tuple (by decide +kernel) rfl) fun _ _ _ _ => rfl) ad_nil))) ad_nil))))) (wd_or1 (td_not (td_chain od_le od_le (ed_v (pv 2)) (ed_callB (cd_lenA rfl rfl) (by rfl) T.n_len (by decide +kernel) (ad_cons (ed_v (pv 0)) ad_nil)) (ed_v (pv 3))))))) (bd_one (sd_ret ed_bl)) bd_nil) (bd_one (sd_ret (ed_callB (cd_all rfl) (by rfl) T.n_all (by decide +kernel) (ad_cons (ed_lc (own := [("one", 4)]) rfl sc_law_is_list.nd (id_seq (ed_v (pv 0))) (blkOk_by (own := [("one", 4)]) (N := N_law_is_list) (sc := defScope s_law_is_list) (by decide +kernel)) (fun _ _ _ _ _ => (gd_name (pg_name (i := 4) sc_law_is_list.nd rfl (by first | exact .inl rfl | exact .inr rfl)) (by decide))) (fun _ _ _ _ _ => (ed_and (ed_callB (cd_isiA T.hF rfl) (by rfl) T.n_isinstance (by decide +kernel) (ad_cons (ed_v (pv 4)) (ad_cons (ed_c (pe_bltn (v := .ty "int") (u := .type "int") (by rfl) T.n_int (by decide +kernel) rfl) fun _ _ _ _ => rfl) ad_nil))) (ed_and (ed_not (ed_callB (cd_isiA T.hF rfl) (by rfl) T.n_isinstance (by decide +kernel) (ad_cons (ed_v (pv 4)) (ad_cons (ed_c (pe_bltn (v := .ty "bool") (u := .type "bool") (by rfl) T.n_bool (by decide +kernel) rfl) fun _ _ _ _ => rfl) ad_nil)))) (ed_one (ed_chain od_le od_lt ed_int (ed_v (pv 4)) (ed_callB (cd_lenA rfl rfl) (by rfl) T.n_len (by decide +kernel) (ad_cons (ed_v (pv 1)) ad_nil)))))))) ad_nil)))))
theorem ok_is_count (T : Tx K mg) : FnG IW.P IW.w K mg base 2 T.a_is_count T.d_is_count ["value"] (spD K 1 g_is_count) := by
  refine fnD (N := N_is_count) (m := b_is_count) T.F_is_count sc_is_count fun cdv A outer s H E hr hg => ?_
  have hgd : A.guards = some [] := hg
  have hu := hr.units
  exact (bd_one (sd_ret (ed_and (ed_call (ok_is_integer T) (hr.mono (by decide)) hgd (by rfl) T.m_is_integer T.F_is_integer.kp T.B_is_integer (ad_cons (ed_v (pv 0)) ad_nil)) (ed_one (ed_cmp od_ge (ed_v (pv 0)) ed_int (nomark _))))))
theorem ok_run_slips (T : Tx K mg) : FnG IW.P IW.w K mg base 2 T.a_run_slips T.d_run_slips ["reader", "run"] (spD K 2 g_run_slips) := by
  refine fnD (N := N_run_slips) (m := b_run_slips) T.F_run_slips sc_run_slips fun cdv A outer s H E hr hg => ?_
  have hgd : A.guards = some [] := hg
  have hu := hr.units
  exact (bd_one (sd_ret (ed_tup (ad_cons (ed_call (ok_many_slips T) (hr.mono (by decide)) hgd (by rfl) T.m_many_slips T.F_many_slips.kp T.B_many_slips (ad_cons (ed_v (pv 0)) (ad_cons (ed_ixA rfl rfl hu (ed_v (pv 1)) ed_int) ad_nil))) (ad_cons (ed_call (ok_many_slips T) (hr.mono (by decide)) hgd (by rfl) T.m_many_slips T.F_many_slips.kp T.B_many_slips (ad_cons (ed_v (pv 0)) (ad_cons (ed_ixA rfl rfl hu (ed_v (pv 1)) ed_int) ad_nil))) ad_nil)))))
theorem ok_law_pick (T : Tx K mg) : FnG IW.P IW.w K mg base 2 T.a_law_pick T.d_law_pick ["pot", "some"] (spD K 2 g_law_pick) := by
  refine fnD (N := N_law_pick) (m := b_law_pick) T.F_law_pick sc_law_pick fun cdv A outer s H E hr hg => ?_
  have hgd : A.guards = some [] := hg
  have hu := hr.units
  exact (bd_one (sd_ret (ed_ixA rfl rfl hu (ed_v (pv 1)) (ed_call (ok_law_draw T) (hr.mono (by decide)) hgd (by rfl) T.m_law_draw T.F_law_draw.kp T.B_law_draw (ad_cons (ed_v (pv 0)) (ad_cons (ed_callB (cd_lenA rfl rfl) (by rfl) T.n_len (by decide +kernel) (ad_cons (ed_v (pv 1)) ad_nil)) ad_nil))))))
theorem ok_law_reader (T : Tx K mg) : FnG IW.P IW.w K mg base 2 T.a_law_reader T.d_law_reader ["pot", "letters", "most"] (spD K 3 g_law_reader) := by
  refine fnD (N := N_law_reader) (m := b_law_reader) T.F_law_reader sc_law_reader fun cdv A outer s H E hr hg => ?_
  have hgd : A.guards = some [] := hg
  have hu := hr.units
  exact (bd_cons (sd_par3 (i := 3) (j := 4) (l := 5) (ps_par3 rfl sc_law_reader.nd rfl rfl rfl (by decide) (by decide) (by decide) rfl rfl rfl (ad_cons (ed_bin od_add ed_int (ed_call (ok_law_draw T) (hr.mono (by decide)) hgd (by rfl) T.m_law_draw T.F_law_draw.kp T.B_law_draw (ad_cons (ed_v (pv 0)) (ad_cons (ed_v (pv 2)) ad_nil)))) (ad_cons (ed_new ad_nil) (ad_cons ed_int ad_nil))) (by rfl))) (bd_cons (sd_set (i := 5) (ps_set (i := 5) sc_law_reader.nd rfl (by first | exact .inl rfl | exact .inr rfl) (ed_if (td_cmp (od_eq hu) (ed_v (pv 3)) ed_int (nomark _)) ed_int (ed_v (pv 5))))) (bd_cons (sd_for (L := [6]) PassesOwn.never rfl (id_rng1 (pi_range1 (by rfl) T.n_range (ad_cons (ed_v (pv 3)) ad_nil))) (gd_name (pg_name (i := 6) sc_law_reader.nd rfl (by first | exact .inl rfl | exact .inr rfl)) (by decide)) (bd_one (sd_for (L := [7]) PassesOwn.never rfl (id_rng1 (pi_range1 (by rfl) T.n_range (ad_cons (ed_v (pv 1)) ad_nil))) (gd_name (pg_name (i := 7) sc_law_reader.nd rfl (by first | exact .inl rfl | exact .inr rfl)) (by decide)) (bd_cons (sd_set (i := 8) (ps_set (i := 8) sc_law_reader.nd rfl (by first | exact .inl rfl | exact .inr rfl) (ed_tup (ad_cons (ed_v (pv 6)) (ad_cons (ed_v (pv 7)) (ad_cons (ed_call (ok_law_draw T) (hr.mono (by decide)) hgd (by rfl) T.m_law_draw T.F_law_draw.kp T.B_law_draw (ad_cons (ed_v (pv 0)) (ad_cons (ed_v (pv 3)) ad_nil))) (ad_cons (ed_call (ok_law_draw T) (hr.mono (by decide)) hgd (by rfl) T.m_law_draw T.F_law_draw.kp T.B_law_draw (ad_cons (ed_v (pv 0)) (ad_cons ed_int ad_nil))) ad_nil))))))) (bd_cons (sd_expr (ps_expr (ed_bm PySem.F.slot_list_append PySem.F.type_list_append mt_app (ed_v (pv 4)) (ad_cons (ed_v (pv 8)) ad_nil)))) (bd_cons (sd_set (i := 9) (ps_set (i := 9) sc_law_reader.nd rfl (by first | exact .inl rfl | exact .inr rfl) (ed_tup (ad_cons (ed_v (pv 6)) (ad_cons (ed_v (pv 7)) (ad_cons (ed_call (ok_law_draw T) (hr.mono (by decide)) hgd (by rfl) T.m_law_draw T.F_law_draw.kp T.B_law_draw (ad_cons (ed_v (pv 0)) (ad_cons (ed_v (pv 3)) ad_nil))) (ad_cons (ed_call (ok_law_draw T) (hr.mono (by decide)) hgd (by rfl) T.m_law_draw T.F_law_draw.kp T.B_law_draw (ad_cons (ed_v (pv 0)) (ad_cons ed_int ad_nil))) ad_nil))))))) (bd_one (sd_if (WD.td (wd_and (td_cmp od_gt (ed_v (pv 5)) ed_int (nomark _)) (wd_and (td_cmp (od_ne hu) (ed_v (pv 9)) (ed_v (pv 8)) (nomark _)) (wd_and1 (td_cmp (od_eq hu) (ed_call (ok_law_draw T) (hr.mono (by decide)) hgd (by rfl) T.m_law_draw T.F_law_draw.kp T.B_law_draw (ad_cons (ed_v (pv 0)) (ad_cons ed_int ad_nil))) ed_int (nomark _)))))) (bd_cons (sd_expr (ps_expr (ed_bm PySem.F.slot_list_append PySem.F.type_list_append mt_app (ed_v (pv 4)) (ad_cons (ed_v (pv 9)) ad_nil)))) (bd_one (sd_set (i := 5) (ps_set (i := 5) sc_law_reader.nd rfl (by first | exact .inl rfl | exact .inr rfl) (ed_bin od_sub (ed_v (pv 5)) ed_int))))) bd_nil)))))))) (bd_one (sd_ret (ed_tup (ad_cons (ed_v (pv 1)) (ad_cons (ed_v (pv 3)) (ad_cons (ed_callB (cd_sortedA rfl rfl rfl hu) (by rfl) T.n_sorted (by decide +kernel) (ad_cons (ed_v (pv 4)) ad_nil)) ad_nil)))))))))
theorem ok_law_letters (T : Tx K mg) : FnG IW.P IW.w K mg base 2 T.a_law_letters T.d_law_letters ["pot", "letters", "many"] (spD K 3 g_law_letters) := by
  refine fnD (N := N_law_letters) (m := b_law_letters) T.F_law_letters sc_law_letters fun cdv A outer s H E hr hg => ?_
  have hgd : A.guards = some [] := hg
  have hu := hr.units
  exact (bd_cons (sd_set (i := 3) (ps_set (i := 3) sc_law_letters.nd rfl (by first | exact .inl rfl | exact .inr rfl) (ed_new ad_nil))) (bd_cons (sd_for (L := [4]) PassesOwn.never rfl (id_rng1 (pi_range1 (by rfl) T.n_range (ad_cons (ed_v (pv 2)) ad_nil))) (gd_name (pg_name (i := 4) sc_law_letters.nd rfl (by first | exact .inl rfl | exact .inr rfl)) (by decide)) (bd_one (sd_expr (ps_expr (ed_bm PySem.F.slot_list_append PySem.F.type_list_append mt_app (ed_v (pv 3)) (ad_cons (ed_call (ok_law_draw T) (hr.mono (by decide)) hgd (by rfl) T.m_law_draw T.F_law_draw.kp T.B_law_draw (ad_cons (ed_v (pv 0)) (ad_cons (ed_v (pv 1)) ad_nil))) ad_nil)))))) (bd_one (sd_ret (ed_callTy cd_tuple (by rfl) T.n_tuple (by decide +kernel) (ad_cons (ed_v (pv 3)) ad_nil))))))
theorem ok_law_is_run (T : Tx K mg) : FnG IW.P IW.w K mg base 2 T.a_law_is_run T.d_law_is_run ["ways", "row", "value"] (spD K 3 g_law_is_run) := by
  refine fnD (N := N_law_is_run) (m := b_law_is_run) T.F_law_is_run sc_law_is_run fun cdv A outer s H E hr hg => ?_
  have hgd : A.guards = some [] := hg
  have hu := hr.units
  exact (bd_cons (sd_if (WD.td (wd_or (td_not (td_val (ed_callB (cd_isiA T.hF rfl) (by rfl) T.n_isinstance (by decide +kernel) (ad_cons (ed_v (pv 2)) (ad_cons (ed_c (pe_bltn (v := .ty "tuple") (u := .type "tuple") (by rfl) T.n_tuple (by decide +kernel) rfl) fun _ _ _ _ => rfl) ad_nil))))) (wd_or1 (td_cmp (od_ne hu) (ed_callB (cd_lenA rfl rfl) (by rfl) T.n_len (by decide +kernel) (ad_cons (ed_v (pv 2)) ad_nil)) ed_int (nomark _))))) (bd_one (sd_ret ed_bl)) bd_nil) (bd_cons (sd_if (WD.td (wd_or (td_not (td_val (ed_call (ok_law_is_list T) (hr.mono (by decide)) hgd (by rfl) T.m_law_is_list T.F_law_is_list.kp T.B_law_is_list (ad_cons (ed_ixA rfl rfl hu (ed_v (pv 2)) ed_int) (ad_cons (ed_v (pv 0)) (ad_cons ed_int (ad_cons ed_int ad_nil))))))) (wd_or1 (td_not (td_val (ed_call (ok_law_is_list T) (hr.mono (by decide)) hgd (by rfl) T.m_law_is_list T.F_law_is_list.kp T.B_law_is_list (ad_cons (ed_ixA rfl rfl hu (ed_v (pv 2)) ed_int) (ad_cons (ed_v (pv 0)) (ad_cons ed_int (ad_cons ed_int ad_nil)))))))))) (bd_one (sd_ret ed_bl)) bd_nil) (bd_cons (sd_par3 (i := 3) (j := 4) (l := 5) (ps_par3 rfl sc_law_is_run.nd rfl rfl rfl (by decide) (by decide) (by decide) rfl rfl rfl (ad_cons (ed_callTy cd_list (by rfl) T.n_list (by decide +kernel) (ad_cons (ed_ixA rfl rfl hu (ed_v (pv 2)) ed_int) ad_nil)) (ad_cons (ed_callTy cd_list (by rfl) T.n_list (by decide +kernel) (ad_cons (ed_ixA rfl rfl hu (ed_v (pv 2)) ed_int) ad_nil)) (ad_cons (ed_callB (cd_lenA rfl rfl) (by rfl) T.n_len (by decide +kernel) (ad_cons (ed_ixA rfl rfl hu (ed_v (pv 1)) ed_int) ad_nil)) ad_nil))) (by rfl))) (bd_cons (sd_if (WD.td (wd_or (td_cmp od_lt (ed_callB (cd_lenA rfl rfl) (by rfl) T.n_len (by decide +kernel) (ad_cons (ed_v (pv 3)) ad_nil)) (ed_callB (cd_lenA rfl rfl) (by rfl) T.n_len (by decide +kernel) (ad_cons (ed_ixA rfl rfl hu (ed_v (pv 1)) ed_int) ad_nil)) (nomark _)) (wd_or (td_cmp (od_ne hu) (ed_bin od_mod (ed_callTy cd_int (by rfl) T.n_int (by decide +kernel) (ad_cons (ed_bin od_sub (ed_callB (cd_lenA rfl rfl) (by rfl) T.n_len (by decide +kernel) (ad_cons (ed_v (pv 3)) ad_nil)) (ed_callB (cd_lenA rfl rfl) (by rfl) T.n_len (by decide +kernel) (ad_cons (ed_ixA rfl rfl hu (ed_v (pv 1)) ed_int) ad_nil))) ad_nil)) (ed_v (pv 5))) ed_int (nomark _)) (wd_or1 (td_cmp (od_ne hu) (ed_bin od_mod (ed_callTy cd_int (by rfl) T.n_int (by decide +kernel) (ad_cons (ed_callB (cd_lenA rfl rfl) (by rfl) T.n_len (by decide +kernel) (ad_cons (ed_v (pv 4)) ad_nil)) ad_nil)) (ed_v (pv 5))) ed_int (nomark _)))))) (bd_one (sd_ret ed_bl)) bd_nil) (bd_cons (sd_set (i := 6) (ps_set (i := 6) sc_law_is_run.nd rfl (by first | exact .inl rfl | exact .inr rfl) ed_int)) (bd_cons (sd_for (L := [7, 8]) PassesOwn.never rfl (id_enm (by rfl) T.n_enumerate (ad_cons (ed_bin od_add (ed_v (pv 3)) (ed_v (pv 4))) ad_nil)) (gd_tup rfl (gsd_cons (gd_name (pg_name (i := 7) sc_law_is_run.nd rfl (by first | exact .inl rfl | exact .inr rfl)) (by decide)) (gsd_cons (gd_name (pg_name (i := 8) sc_law_is_run.nd rfl (by first | exact .inl rfl | exact .inr rfl)) (by decide)) gsd_nil))) (bd_cons (sd_if (WD.td (wd_or (td_cmp (od_ne hu) (ed_ixA rfl rfl hu (ed_ixA rfl rfl hu (ed_v (pv 0)) (ed_v (pv 8))) ed_int) (ed_v (pv 6)) (nomark _)) (wd_or1 (td_cmp (od_ne hu) (ed_ixA rfl rfl hu (ed_ixA rfl rfl hu (ed_v (pv 0)) (ed_v (pv 8))) ed_int) (ed_call (ok_law_letter T) (hr.mono (by decide)) hgd (by rfl) T.m_law_letter T.F_law_letter.kp T.B_law_letter (ad_cons (ed_v (pv 1)) (ad_cons (ed_v (pv 7)) ad_nil))) (nomark _))))) (bd_one (sd_ret ed_bl)) bd_nil) (bd_one (sd_set (i := 6) (ps_set (i := 6) sc_law_is_run.nd rfl (by first | exact .inl rfl | exact .inr rfl) (ed_ixA rfl rfl hu (ed_ixA rfl rfl hu (ed_v (pv 0)) (ed_v (pv 8))) ed_int)))))) (bd_one (sd_ret (ed_cmp (od_eq hu) (ed_v (pv 6)) (ed_ixA rfl rfl hu (ed_ixA rfl rfl hu (ed_v (pv 0)) (ed_ixA rfl rfl hu (ed_v (pv 4)) ed_int)) ed_int) (nomark _))))))))))
theorem ok_want_letters (T : Tx K mg) : FnG IW.P IW.w K mg base 3 T.a_want_letters T.d_want_letters ["value"] (spD K 1 g_want_letters) := by
  refine fnD (N := N_want_letters) (m := b_want_letters) T.F_want_letters sc_want_letters fun cdv A outer s H E hr hg => ?_
  have hgd : A.guards = some [] := hg
  have hu := hr.units
  exact (bd_cons (sd_if (WD.td (wd_or (td_not (td_val (ed_call (ok_is_count T) (hr.mono (by decide)) hgd (by rfl) T.m_is_count T.F_is_count.kp T.B_is_count (ad_cons (ed_v (pv 0)) ad_nil)))) (wd_or1 (td_not (td_chain od_le od_le ed_int (ed_v (pv 0)) (T.e_MOST_LETTERS rfl rfl (by rfl))))))) (bd_one sd_never) bd_nil) (bd_one (sd_ret (ed_v (pv 0)))))
theorem ok_is_way_of (T : Tx K mg) : FnG IW.P IW.w K mg base 3 T.a_is_way_of T.d_is_way_of ["letters", "rooms", "value"] (spD K 3 g_is_way_of) := by
  refine fnD (N := N_is_way_of) (m := b_is_way_of) T.F_is_way_of sc_is_way_of fun cdv A outer s H E hr hg => ?_
  have hgd : A.guards = some [] := hg
  have hu := hr.units
  exact (bd_cons (sd_if (WD.td (wd_or (td_not (td_val (ed_callB (cd_isiA T.hF rfl) (by rfl) T.n_isinstance (by decide +kernel) (ad_cons (ed_v (pv 2)) (ad_cons (ed_c (pe_bltn (v := .ty "tuple") (u := .type "tuple") (by rfl) T.n_tuple (by decide +kernel) rfl) fun _ _ _ _ => rfl) ad_nil))))) (wd_or (td_cmp (od_ne hu) (ed_callB (cd_lenA rfl rfl) (by rfl) T.n_len (by decide +kernel) (ad_cons (ed_v (pv 2)) ad_nil)) (T.e_WAY_PARTS rfl rfl (by rfl)) (nomark _)) (wd_or1 (td_not (td_val (ed_callB (cd_all rfl) (by rfl) T.n_all (by decide +kernel) (ad_cons (ed_lc (own := [("one", 3)]) rfl sc_is_way_of.nd (id_seq (ed_v (pv 2))) (blkOk_by (own := [("one", 3)]) (N := N_is_way_of) (sc := defScope s_is_way_of) (by decide +kernel)) (fun _ _ _ _ _ => (gd_name (pg_name (i := 3) sc_is_way_of.nd rfl (by first | exact .inl rfl | exact .inr rfl)) (by decide))) (fun _ _ _ _ _ => (ed_call (ok_is_count T) (hr.mono (by decide)) hgd (by rfl) T.m_is_count T.F_is_count.kp T.B_is_count (ad_cons (ed_v (pv 3)) ad_nil)))) ad_nil)))))))) (bd_one (sd_ret ed_bl)) bd_nil) (bd_one (sd_ret (ed_and (ed_cmp od_lt (ed_ixA rfl rfl hu (ed_v (pv 2)) ed_int) (ed_v (pv 1)) (nomark _)) (ed_and (ed_cmp od_lt (ed_ixA rfl rfl hu (ed_v (pv 2)) ed_int) (ed_v (pv 0)) (nomark _)) (ed_and (ed_cmp od_lt (ed_ixA rfl rfl hu (ed_v (pv 2)) ed_int) (ed_v (pv 1)) (nomark _)) (ed_one (ed_cmp od_lt (ed_ixA rfl rfl hu (ed_v (pv 2)) ed_int) ed_int (nomark _)))))))))
theorem ok_are_letters (T : Tx K mg) : FnG IW.P IW.w K mg base 3 T.a_are_letters T.d_are_letters ["letters", "value"] (spD K 2 g_are_letters) := by
  refine fnD (N := N_are_letters) (m := b_are_letters) T.F_are_letters sc_are_letters fun cdv A outer s H E hr hg => ?_
  have hgd : A.guards = some [] := hg
  have hu := hr.units
  exact (bd_cons (sd_if (WD.td (wd_or (td_not (td_val (ed_callB (cd_isiA T.hF rfl) (by rfl) T.n_isinstance (by decide +kernel) (ad_cons (ed_v (pv 1)) (ad_cons (ed_c (pe_bltn (v := .ty "tuple") (u := .type "tuple") (by rfl) T.n_tuple (by decide +kernel) rfl) fun _ _ _ _ => rfl) ad_nil))))) (wd_or1 (td_cmp od_gt (ed_callB (cd_lenA rfl rfl) (by rfl) T.n_len (by decide +kernel) (ad_cons (ed_v (pv 1)) ad_nil)) (T.e_MOST_BEGIN rfl rfl (by rfl)) (nomark _))))) (bd_one (sd_ret ed_bl)) bd_nil) (bd_one (sd_ret (ed_callB (cd_all rfl) (by rfl) T.n_all (by decide +kernel) (ad_cons (ed_lc (own := [("one", 2)]) rfl sc_are_letters.nd (id_seq (ed_v (pv 1))) (blkOk_by (own := [("one", 2)]) (N := N_are_letters) (sc := defScope s_are_letters) (by decide +kernel)) (fun _ _ _ _ _ => (gd_name (pg_name (i := 2) sc_are_letters.nd rfl (by first | exact .inl rfl | exact .inr rfl)) (by decide))) (fun _ _ _ _ _ => (ed_and (ed_call (ok_is_count T) (hr.mono (by decide)) hgd (by rfl) T.m_is_count T.F_is_count.kp T.B_is_count (ad_cons (ed_v (pv 2)) ad_nil)) (ed_one (ed_cmp od_lt (ed_v (pv 2)) (ed_v (pv 0)) (nomark _)))))) ad_nil)))))
theorem ok_is_ways_list (T : Tx K mg) : FnG IW.P IW.w K mg base 3 T.a_is_ways_list T.d_is_ways_list ["reader", "value", "least", "most"] (spD K 4 g_is_ways_list) := by
  refine fnD (N := N_is_ways_list) (m := b_is_ways_list) T.F_is_ways_list sc_is_ways_list fun cdv A outer s H E hr hg => ?_
  have hgd : A.guards = some [] := hg
  have hu := hr.units
  exact (bd_cons (sd_if (WD.td (wd_or (td_not (td_val (ed_call (ok_is_list T) (hr.mono (by decide)) hgd (by rfl) T.m_is_list T.F_is_list.kp T.B_is_list (ad_cons (ed_v (pv 1)) ad_nil)))) (wd_or1 (td_not (td_chain od_le od_le (ed_v (pv 2)) (ed_callB (cd_lenA rfl rfl) (by rfl) T.n_len (by decide +kernel) (ad_cons (ed_v (pv 1)) ad_nil)) (ed_v (pv 3))))))) (bd_one (sd_ret ed_bl)) bd_nil) (bd_one (sd_ret (ed_callB (cd_all rfl) (by rfl) T.n_all (by decide +kernel) (ad_cons (ed_lc (own := [("one", 4)]) rfl sc_is_ways_list.nd (id_seq (ed_v (pv 1))) (blkOk_by (own := [("one", 4)]) (N := N_is_ways_list) (sc := defScope s_is_ways_list) (by decide +kernel)) (fun _ _ _ _ _ => (gd_name (pg_name (i := 4) sc_is_ways_list.nd rfl (by first | exact .inl rfl | exact .inr rfl)) (by decide))) (fun _ _ _ _ _ => (ed_and (ed_call (ok_is_count T) (hr.mono (by decide)) hgd (by rfl) T.m_is_count T.F_is_count.kp T.B_is_count (ad_cons (ed_v (pv 4)) ad_nil)) (ed_one (ed_cmp od_lt (ed_v (pv 4)) (ed_callB (cd_lenA rfl rfl) (by rfl) T.n_len (by decide +kernel) (ad_cons (ed_fld T.hF (na_cons T.c_Reader T.n_Reader_own_ways na_nil) (ed_v (pv 0))) ad_nil)) (nomark _)))))) ad_nil)))))
theorem ok_law_row (T : Tx K mg) : FnG IW.P IW.w K mg base 3 T.a_law_row T.d_law_row ["pot", "letters"] (spD K 2 g_law_row) := by
  refine fnD (N := N_law_row) (m := b_law_row) T.F_law_row sc_law_row fun cdv A outer s H E hr hg => ?_
  have hgd : A.guards = some [] := hg
  have hu := hr.units
  exact (bd_cons (sd_set (i := 2) (ps_set (i := 2) sc_law_row.nd rfl (by first | exact .inl rfl | exact .inr rfl) (ed_call (ok_law_letters T) (hr.mono (by decide)) hgd (by rfl) T.m_law_letters T.F_law_letters.kp T.B_law_letters (ad_cons (ed_v (pv 0)) (ad_cons (ed_v (pv 1)) (ad_cons (ed_call (ok_law_draw T) (hr.mono (by decide)) hgd (by rfl) T.m_law_draw T.F_law_draw.kp T.B_law_draw (ad_cons (ed_v (pv 0)) (ad_cons ed_int ad_nil))) ad_nil)))))) (bd_one (sd_ret (ed_tup (ad_cons (ed_v (pv 2)) (ad_cons (ed_call (ok_law_letters T) (hr.mono (by decide)) hgd (by rfl) T.m_law_letters T.F_law_letters.kp T.B_law_letters (ad_cons (ed_v (pv 0)) (ad_cons (ed_v (pv 1)) (ad_cons (ed_bin od_add ed_int (ed_call (ok_law_draw T) (hr.mono (by decide)) hgd (by rfl) T.m_law_draw T.F_law_draw.kp T.B_law_draw (ad_cons (ed_v (pv 0)) (ad_cons ed_int ad_nil)))) ad_nil)))) ad_nil))))))
theorem ok_law_walk (T : Tx K mg) : FnG IW.P IW.w K mg base 3 T.a_law_walk T.d_law_walk ["pot", "ways", "row"] (spD K 3 g_law_walk) := by
  refine fnD (N := N_law_walk) (m := b_law_walk) T.F_law_walk sc_law_walk fun cdv A outer s H E hr hg => ?_
  have hgd : A.guards = some [] := hg
  have hu := hr.units
  exact (bd_cons (sd_asg (L := [3, 4, 5, 6]) (ps_asg (ed_tup (ad_cons ed_int (ad_cons (ed_new ad_nil) (ad_cons (ed_new ad_nil) (ad_cons ed_int ad_nil))))) (gd_tup rfl (gsd_cons (gd_name (pg_name (i := 3) sc_law_walk.nd rfl (by first | exact .inl rfl | exact .inr rfl)) (by decide)) (gsd_cons (gd_name (pg_name (i := 4) sc_law_walk.nd rfl (by first | exact .inl rfl | exact .inr rfl)) (by decide)) (gsd_cons (gd_name (pg_name (i := 5) sc_law_walk.nd rfl (by first | exact .inl rfl | exact .inr rfl)) (by decide)) (gsd_cons (gd_name (pg_name (i := 6) sc_law_walk.nd rfl (by first | exact .inl rfl | exact .inr rfl)) (by decide)) gsd_nil))))))) (bd_cons (sd_asg (L := [7, 8]) (ps_asg (ed_v (pv 2)) (gd_tup rfl (gsd_cons (gd_name (pg_name (i := 7) sc_law_walk.nd rfl (by first | exact .inl rfl | exact .inr rfl)) (by decide)) (gsd_cons (gd_name (pg_name (i := 8) sc_law_walk.nd rfl (by first | exact .inl rfl | exact .inr rfl)) (by decide)) gsd_nil))))) (bd_cons (sd_for (L := [9]) PassesOwn.never rfl (id_rng1 (pi_range1 (by rfl) T.n_range (ad_cons (ed_bin od_add (ed_callB (cd_lenA rfl rfl) (by rfl) T.n_len (by decide +kernel) (ad_cons (ed_v (pv 7)) ad_nil)) (ed_bin od_mul ed_int (ed_callB (cd_lenA rfl rfl) (by rfl) T.n_len (by decide +kernel) (ad_cons (ed_v (pv 8)) ad_nil)))) ad_nil))) (gd_name (pg_name (i := 9) sc_law_walk.nd rfl (by first | exact .inl rfl | exact .inr rfl)) (by decide)) (bd_cons (sd_if (WD.td (wd_and (td_cmp od_ge (ed_v (pv 6)) (ed_callB (cd_lenA rfl rfl) (by rfl) T.n_len (by decide +kernel) (ad_cons (ed_v (pv 7)) ad_nil)) (nomark _)) (wd_and1 (td_cmp (od_eq hu) (ed_bin od_mod (ed_callTy cd_int (by rfl) T.n_int (by decide +kernel) (ad_cons (ed_bin od_sub (ed_v (pv 6)) (ed_callB (cd_lenA rfl rfl) (by rfl) T.n_len (by decide +kernel) (ad_cons (ed_v (pv 7)) ad_nil))) ad_nil)) (ed_callB (cd_lenA rfl rfl) (by rfl) T.n_len (by decide +kernel) (ad_cons (ed_v (pv 8)) ad_nil))) ed_int (nomark _))))) (bd_one (sd_expr (ps_expr (ed_bm PySem.F.slot_list_append PySem.F.type_list_append mt_app (ed_v (pv 5)) (ad_cons (ed_tup (ad_cons (ed_v (pv 3)) (ad_cons (ed_v (pv 6)) ad_nil))) ad_nil))))) bd_nil) (bd_cons (sd_setLcIf (i := 10) (own := [("number", 11), ("way", 12)]) rfl sc_law_walk.nd rfl rfl (sw_true rfl rfl rfl (by decide +kernel)) (id_enm (by rfl) T.n_enumerate (ad_cons (ed_v (pv 1)) ad_nil)) (blkOk_by (own := [("number", 11), ("way", 12)]) (N := N_law_walk) (sc := defScope s_law_walk) (by decide +kernel)) (fun _ _ _ _ _ => (gd_tup rfl (gsd_cons (gd_name (pg_name (i := 11) sc_law_walk.nd rfl (by first | exact .inl rfl | exact .inr rfl)) (by decide)) (gsd_cons (gd_name (pg_name (i := 12) sc_law_walk.nd rfl (by first | exact .inl rfl | exact .inr rfl)) (by decide)) gsd_nil)))) (fun _ _ _ _ _ => (WD.td (wd_and (td_cmp (od_eq hu) (ed_ixA rfl rfl hu (ed_v (pv 12)) ed_int) (ed_v (pv 3)) (nomark _)) (wd_and1 (td_cmp (od_eq hu) (ed_ixA rfl rfl hu (ed_v (pv 12)) ed_int) (ed_call (ok_law_letter T) (hr.mono (by decide)) hgd (by rfl) T.m_law_letter T.F_law_letter.kp T.B_law_letter (ad_cons (ed_v (pv 2)) (ad_cons (ed_v (pv 6)) ad_nil))) (nomark _)))))) (fun _ _ _ _ _ => (ed_v (pv 11)))) (bd_cons (sd_expr (ps_expr (ed_bm PySem.F.slot_list_append PySem.F.type_list_append mt_app (ed_v (pv 4)) (ad_cons (ed_call (ok_law_pick T) (hr.mono (by decide)) hgd (by rfl) T.m_law_pick T.F_law_pick.kp T.B_law_pick (ad_cons (ed_v (pv 0)) (ad_cons (ed_v (pv 10)) ad_nil))) ad_nil)))) (bd_one (sd_asg (L := [3, 6]) (ps_asg (ed_tup (ad_cons (ed_ixA rfl rfl hu (ed_ixA rfl rfl hu (ed_v (pv 1)) (ed_ixA rfl rfl hu (ed_v (pv 4)) (ed_un un_negD ed_int))) ed_int) (ad_cons (ed_bin od_add (ed_v (pv 6)) ed_int) ad_nil))) (gd_tup rfl (gsd_cons (gd_name (pg_name (i := 3) sc_law_walk.nd rfl (by first | exact .inl rfl | exact .inr rfl)) (by decide)) (gsd_cons (gd_name (pg_name (i := 6) sc_law_walk.nd rfl (by first | exact .inl rfl | exact .inr rfl)) (by decide)) gsd_nil)))))))))) (bd_cons (sd_expr (ps_expr (ed_bm PySem.F.slot_list_append PySem.F.type_list_append mt_app (ed_v (pv 5)) (ad_cons (ed_tup (ad_cons (ed_v (pv 3)) (ad_cons (ed_v (pv 6)) ad_nil))) ad_nil)))) (bd_cons (sd_set (i := 13) (ps_set (i := 13) sc_law_walk.nd rfl (by first | exact .inl rfl | exact .inr rfl) (ed_new ad_nil))) (bd_cons (sd_fz 5 (sd_for (L := [14, 15]) PassesOwn.never rfl (id_enm (by rfl) T.n_enumerate (ad_cons (ed_v (pv 5)) ad_nil)) (gd_tup rfl (gsd_cons (gd_name (pg_name (i := 14) sc_law_walk.nd rfl (by first | exact .inl rfl | exact .inr rfl)) (by decide)) (gsd_cons (gd_name (pg_name (i := 15) sc_law_walk.nd rfl (by first | exact .inl rfl | exact .inr rfl)) (by decide)) gsd_nil))) (bd_one (sd_expr (ps_expr (ed_bm PySem.F.slot_list_extend PySem.F.type_list_extend mt_ext (ed_v (pv 13)) (ad_cons (ed_lcIf (own := [("other", 16)]) rfl sc_law_walk.nd (id_seq (ed_slice (ed_v (pv 5)) (pd_some (ed_bin od_add (ed_v (pv 14)) ed_int)) pd_none)) (blkOk_by (own := [("other", 16)]) (N := N_law_walk) (sc := defScope s_law_walk) (by decide +kernel)) (fun _ _ _ _ _ => (gd_name (pg_name (i := 16) sc_law_walk.nd rfl (by first | exact .inl rfl | exact .inr rfl)) (by decide))) (fun _ _ _ _ _ => (td_cmp (od_eq hu) (ed_ixA rfl rfl hu (ed_v (pv 15)) ed_int) (ed_ixA rfl rfl hu (ed_v (pv 16)) ed_int) (nomark _))) (fun _ _ _ _ _ => (ed_tup (ad_cons (ed_v (pv 15)) (ad_cons (ed_v (pv 16)) ad_nil))))) ad_nil))))))) (bd_cons (sd_asg (L := [17, 18]) (ps_asg (ed_call (ok_law_pick T) (hr.mono (by decide)) hgd (by rfl) T.m_law_pick T.F_law_pick.kp T.B_law_pick (ad_cons (ed_v (pv 0)) (ad_cons (ed_v (pv 13)) ad_nil))) (gd_tup rfl (gsd_cons (gd_name (pg_name (i := 17) sc_law_walk.nd rfl (by first | exact .inl rfl | exact .inr rfl)) (by decide)) (gsd_cons (gd_name (pg_name (i := 18) sc_law_walk.nd rfl (by first | exact .inl rfl | exact .inr rfl)) (by decide)) gsd_nil))))) (bd_one (sd_ret (ed_tup (ad_cons (ed_slice (ed_v (pv 4)) pd_none (pd_some (ed_ixA rfl rfl hu (ed_v (pv 17)) ed_int))) (ad_cons (ed_slice (ed_v (pv 4)) (pd_some (ed_ixA rfl rfl hu (ed_v (pv 17)) ed_int)) (pd_some (ed_ixA rfl rfl hu (ed_v (pv 18)) ed_int))) ad_nil))))))))))))
theorem ok_law_bent (T : Tx K mg) : FnG IW.P IW.w K mg base 3 T.a_law_bent T.d_law_bent ["pot", "told", "ways"] (spD K 3 g_law_bent) := by
  refine fnD (N := N_law_bent) (m := b_law_bent) T.F_law_bent sc_law_bent fun cdv A outer s H E hr hg => ?_
  have hgd : A.guards = some [] := hg
  have hu := hr.units
  exact (bd_cons (sd_asg (L := [3, 4, 5]) (ps_asg (ed_tup (ad_cons (ed_call (ok_law_draw T) (hr.mono (by decide)) hgd (by rfl) T.m_law_draw T.F_law_draw.kp T.B_law_draw (ad_cons (ed_v (pv 0)) (ad_cons ed_int ad_nil))) (ad_cons (ed_v (pv 1)) ad_nil))) (gd_tup rfl (gsd_cons (gd_name (pg_name (i := 3) sc_law_bent.nd rfl (by first | exact .inl rfl | exact .inr rfl)) (by decide)) (gsd_cons (gd_tup rfl (gsd_cons (gd_name (pg_name (i := 4) sc_law_bent.nd rfl (by first | exact .inl rfl | exact .inr rfl)) (by decide)) (gsd_cons (gd_name (pg_name (i := 5) sc_law_bent.nd rfl (by first | exact .inl rfl | exact .inr rfl)) (by decide)) gsd_nil))) gsd_nil))))) (bd_cons (sd_par (i := 6) (j := 7) (ps_par rfl sc_law_bent.nd rfl rfl (by decide) rfl rfl (ad_cons (ed_bin od_add (ed_v (pv 4)) (ed_v (pv 5))) (ad_cons (ed_bin od_mod (ed_call (ok_law_draw T) (hr.mono (by decide)) hgd (by rfl) T.m_law_draw T.F_law_draw.kp T.B_law_draw (ad_cons (ed_v (pv 0)) (ad_cons ed_int ad_nil))) (ed_callB (cd_lenA rfl rfl) (by rfl) T.n_len (by decide +kernel) (ad_cons (ed_bin od_add (ed_v (pv 4)) (ed_v (pv 5))) ad_nil))) ad_nil)) (by rfl))) (bd_cons (sd_set (i := 8) (ps_set (i := 8) sc_law_bent.nd rfl (by first | exact .inl rfl | exact .inr rfl) (ed_call (ok_law_pick T) (hr.mono (by decide)) hgd (by rfl) T.m_law_pick T.F_law_pick.kp T.B_law_pick (ad_cons (ed_v (pv 0)) (ad_cons (ed_lst (ad_cons ed_int (ad_cons ed_int (ad_cons (ed_bin od_sub (ed_callB (cd_lenA rfl rfl) (by rfl) T.n_len (by decide +kernel) (ad_cons (ed_v (pv 2)) ad_nil)) ed_int) (ad_cons (ed_callB (cd_lenA rfl rfl) (by rfl) T.n_len (by decide +kernel) (ad_cons (ed_v (pv 2)) ad_nil)) (ad_cons ed_bl (ad_cons ed_non (ad_cons (ed_un un_negD ed_int) ad_nil)))))))) ad_nil))))) (bd_cons (sd_if (td_cmp (od_eq hu) (ed_v (pv 3)) ed_int (nomark _)) (bd_one (sd_ret (ed_tup (ad_cons (ed_bin od_add (ed_v (pv 4)) (ed_v (pv 5))) (ad_cons (ed_v (pv 5)) ad_nil))))) bd_nil) (bd_cons (sd_if (td_cmp (od_eq hu) (ed_v (pv 3)) ed_int (nomark _)) (bd_one (sd_ret (ed_tup (ad_cons (ed_v (pv 4)) (ad_cons (ed_bin od_add (ed_v (pv 5)) (ed_v (pv 5))) ad_nil))))) bd_nil) (bd_cons (sd_if (td_cmp (od_eq hu) (ed_v (pv 3)) ed_int (nomark _)) (bd_cons (sd_set (i := 6) (ps_set (i := 6) sc_law_bent.nd rfl (by first | exact .inl rfl | exact .inr rfl) (ed_bin od_add (ed_bin od_add (ed_slice (ed_v (pv 6)) pd_none (pd_some (ed_v (pv 7)))) (ed_lst (ad_cons (ed_v (pv 8)) ad_nil))) (ed_slice (ed_v (pv 6)) (pd_some (ed_bin od_add (ed_v (pv 7)) ed_int)) pd_none)))) (bd_one (sd_ret (ed_tup (ad_cons (ed_slice (ed_v (pv 6)) pd_none (pd_some (ed_callB (cd_lenA rfl rfl) (by rfl) T.n_len (by decide +kernel) (ad_cons (ed_v (pv 4)) ad_nil)))) (ad_cons (ed_slice (ed_v (pv 6)) (pd_some (ed_callB (cd_lenA rfl rfl) (by rfl) T.n_len (by decide +kernel) (ad_cons (ed_v (pv 4)) ad_nil))) pd_none) ad_nil)))))) bd_nil) (bd_cons (sd_if (td_cmp (od_eq hu) (ed_v (pv 3)) ed_int (nomark _)) (bd_one (sd_ret (ed_tup (ad_cons (ed_v (pv 4)) (ad_cons (ed_slice (ed_v (pv 5)) pd_none (pd_some (ed_un un_negD ed_int))) ad_nil))))) bd_nil) (bd_cons (sd_if (td_cmp (od_eq hu) (ed_v (pv 3)) ed_int (nomark _)) (bd_one (sd_ret (ed_tup (ad_cons (ed_callTy cd_tuple (by rfl) T.n_tuple (by decide +kernel) (ad_cons (ed_v (pv 4)) ad_nil)) (ad_cons (ed_callTy cd_tuple (by rfl) T.n_tuple (by decide +kernel) (ad_cons (ed_v (pv 5)) ad_nil)) ad_nil))))) bd_nil) (bd_cons (sd_if (td_cmp (od_eq hu) (ed_v (pv 3)) ed_int (nomark _)) (bd_one (sd_ret (ed_tup (ad_cons (ed_bin od_add (ed_v (pv 4)) (ed_slice (ed_v (pv 5)) pd_none (pd_some ed_int))) (ad_cons (ed_bin od_add (ed_slice (ed_v (pv 5)) (pd_some ed_int) pd_none) (ed_slice (ed_v (pv 5)) pd_none (pd_some ed_int))) ad_nil))))) bd_nil) (bd_one (sd_ret (ed_if (td_cmp (od_eq hu) (ed_v (pv 3)) ed_int (nomark _)) (ed_lst (ad_cons (ed_v (pv 4)) (ad_cons (ed_v (pv 5)) ad_nil))) (ed_tup (ad_cons (ed_slice (ed_v (pv 4)) (pd_some ed_int) pd_none) (ad_cons (ed_v (pv 5)) ad_nil)))))))))))))))
theorem ok_are_ways (T : Tx K mg) : FnG IW.P IW.w K mg base 4 T.a_are_ways T.d_are_ways ["letters", "rooms", "value"] (spD K 3 g_are_ways) := by
  refine fnD (N := N_are_ways) (m := b_are_ways) T.F_are_ways sc_are_ways fun cdv A outer s H E hr hg => ?_
  have hgd : A.guards = some [] := hg
  have hu := hr.units
  exact (bd_cons (sd_if (WD.td (wd_or (td_not (td_val (ed_call (ok_is_list T) (hr.mono (by decide)) hgd (by rfl) T.m_is_list T.F_is_list.kp T.B_is_list (ad_cons (ed_v (pv 2)) ad_nil)))) (wd_or1 (td_not (td_chain od_le od_le ed_int (ed_callB (cd_lenA rfl rfl) (by rfl) T.n_len (by decide +kernel) (ad_cons (ed_v (pv 2)) ad_nil)) (T.e_MOST_WAYS rfl rfl (by rfl))))))) (bd_one (sd_ret ed_bl)) bd_nil) (bd_cons (sd_if (td_not (td_val (ed_callB (cd_all rfl) (by rfl) T.n_all (by decide +kernel) (ad_cons (ed_lc (own := [("way", 3)]) rfl sc_are_ways.nd (id_seq (ed_v (pv 2))) (blkOk_by (own := [("way", 3)]) (N := N_are_ways) (sc := defScope s_are_ways) (by decide +kernel)) (fun _ _ _ _ _ => (gd_name (pg_name (i := 3) sc_are_ways.nd rfl (by first | exact .inl rfl | exact .inr rfl)) (by decide))) (fun _ _ _ _ _ => (ed_call (ok_is_way_of T) (hr.mono (by decide)) hgd (by rfl) T.m_is_way_of T.F_is_way_of.kp T.B_is_way_of (ad_cons (ed_v (pv 0)) (ad_cons (ed_v (pv 1)) (ad_cons (ed_v (pv 3)) ad_nil)))))) ad_nil)))) (bd_one (sd_ret ed_bl)) bd_nil) (bd_cons (sd_set (i := 4) (ps_set (i := 4) sc_are_ways.nd rfl (by first | exact .inl rfl | exact .inr rfl) (ed_callTy (cd_set rfl rfl rfl hu) (by rfl) T.n_set (by decide +kernel) (ad_cons (ed_v (pv 2)) ad_nil)))) (bd_cons (sd_set (i := 5) (ps_set (i := 5) sc_are_ways.nd rfl (by first | exact .inl rfl | exact .inr rfl) (ed_callTy (cd_set rfl rfl rfl hu) (by rfl) T.n_set (by decide +kernel) (ad_cons (ed_lc (own := [("way", 3)]) rfl sc_are_ways.nd (id_seq (ed_v (pv 2))) (blkOk_by (own := [("way", 3)]) (N := N_are_ways) (sc := defScope s_are_ways) (by decide +kernel)) (fun _ _ _ _ _ => (gd_name (pg_name (i := 3) sc_are_ways.nd rfl (by first | exact .inl rfl | exact .inr rfl)) (by decide))) (fun _ _ _ _ _ => (ed_slice (ed_v (pv 3)) pd_none (pd_some ed_int)))) ad_nil)))) (bd_one (sd_ret (ed_and (ed_cmp (od_eq hu) (ed_callB (cd_lenA rfl rfl) (by rfl) T.n_len (by decide +kernel) (ad_cons (ed_v (pv 4)) ad_nil)) (ed_callB (cd_lenA rfl rfl) (by rfl) T.n_len (by decide +kernel) (ad_cons (ed_v (pv 2)) ad_nil)) (nomark _)) (ed_one (ed_cmp (od_eq hu) (ed_callB (cd_lenA rfl rfl) (by rfl) T.n_len (by decide +kernel) (ad_cons (ed_v (pv 5)) ad_nil)) (ed_bin od_mul (ed_v (pv 0)) (ed_v (pv 1))) (nomark _))))))))))
theorem ok_is_row_of (T : Tx K mg) : FnG IW.P IW.w K mg base 4 T.a_is_row_of T.d_is_row_of ["letters", "value"] (spD K 2 g_is_row_of) := by
  refine fnD (N := N_is_row_of) (m := b_is_row_of) T.F_is_row_of sc_is_row_of fun cdv A outer s H E hr hg => ?_
  have hgd : A.guards = some [] := hg
  have hu := hr.units
  exact (bd_cons (sd_if (WD.td (wd_or (td_not (td_val (ed_callB (cd_isiA T.hF rfl) (by rfl) T.n_isinstance (by decide +kernel) (ad_cons (ed_v (pv 1)) (ad_cons (ed_c (pe_bltn (v := .ty "tuple") (u := .type "tuple") (by rfl) T.n_tuple (by decide +kernel) rfl) fun _ _ _ _ => rfl) ad_nil))))) (wd_or1 (td_cmp (od_ne hu) (ed_callB (cd_lenA rfl rfl) (by rfl) T.n_len (by decide +kernel) (ad_cons (ed_v (pv 1)) ad_nil)) ed_int (nomark _))))) (bd_one (sd_ret ed_bl)) bd_nil) (bd_one (sd_ret (ed_and (ed_call (ok_are_letters T) (hr.mono (by decide)) hgd (by rfl) T.m_are_letters T.F_are_letters.kp T.B_are_letters (ad_cons (ed_v (pv 0)) (ad_cons (ed_ixA rfl rfl hu (ed_v (pv 1)) ed_int) ad_nil))) (ed_and (ed_call (ok_are_letters T) (hr.mono (by decide)) hgd (by rfl) T.m_are_letters T.F_are_letters.kp T.B_are_letters (ad_cons (ed_v (pv 0)) (ad_cons (ed_ixA rfl rfl hu (ed_v (pv 1)) ed_int) ad_nil))) (ed_one (ed_cmp (od_ne hu) (ed_ixA rfl rfl hu (ed_v (pv 1)) ed_int) (ed_tup ad_nil) (nomark _))))))))
theorem ok_is_told_run (T : Tx K mg) : FnG IW.P IW.w K mg base 4 T.a_is_told_run T.d_is_told_run ["reader", "value"] (spD K 2 g_is_told_run) := by
  refine fnD (N := N_is_told_run) (m := b_is_told_run) T.F_is_told_run sc_is_told_run fun cdv A outer s H E hr hg => ?_
  have hgd : A.guards = some [] := hg
  have hu := hr.units
  exact (bd_cons (sd_if (WD.td (wd_or (td_not (td_val (ed_callB (cd_isiA T.hF rfl) (by rfl) T.n_isinstance (by decide +kernel) (ad_cons (ed_v (pv 1)) (ad_cons (ed_c (pe_bltn (v := .ty "tuple") (u := .type "tuple") (by rfl) T.n_tuple (by decide +kernel) rfl) fun _ _ _ _ => rfl) ad_nil))))) (wd_or1 (td_cmp (od_ne hu) (ed_callB (cd_lenA rfl rfl) (by rfl) T.n_len (by decide +kernel) (ad_cons (ed_v (pv 1)) ad_nil)) ed_int (nomark _))))) (bd_one (sd_ret ed_bl)) bd_nil) (bd_cons (sd_if (WD.td (wd_or (td_not (td_val (ed_call (ok_is_ways_list T) (hr.mono (by decide)) hgd (by rfl) T.m_is_ways_list T.F_is_ways_list.kp T.B_is_ways_list (ad_cons (ed_v (pv 0)) (ad_cons (ed_ixA rfl rfl hu (ed_v (pv 1)) ed_int) (ad_cons ed_int (ad_cons (T.e_MOST_HEAD rfl rfl (by rfl)) ad_nil))))))) (wd_or1 (td_not (td_val (ed_call (ok_is_ways_list T) (hr.mono (by decide)) hgd (by rfl) T.m_is_ways_list T.F_is_ways_list.kp T.B_is_ways_list (ad_cons (ed_v (pv 0)) (ad_cons (ed_ixA rfl rfl hu (ed_v (pv 1)) ed_int) (ad_cons ed_int (ad_cons (T.e_MOST_LOOP rfl rfl (by rfl)) ad_nil)))))))))) (bd_one (sd_ret ed_bl)) bd_nil) (bd_cons (sd_set (i := 2) (ps_set (i := 2) sc_is_told_run.nd rfl (by first | exact .inl rfl | exact .inr rfl) (ed_bin od_add (ed_callTy cd_list (by rfl) T.n_list (by decide +kernel) (ad_cons (ed_ixA rfl rfl hu (ed_v (pv 1)) ed_int) ad_nil)) (ed_callTy cd_list (by rfl) T.n_list (by decide +kernel) (ad_cons (ed_ixA rfl rfl hu (ed_v (pv 1)) ed_int) ad_nil))))) (bd_cons (sd_set (i := 3) (ps_set (i := 3) sc_is_told_run.nd rfl (by first | exact .inl rfl | exact .inr rfl) (ed_ixA rfl rfl hu (ed_ixA rfl rfl hu (ed_fld T.hF (na_cons T.c_Reader T.n_Reader_own_ways na_nil) (ed_v (pv 0))) (ed_ixA rfl rfl hu (ed_ixA rfl rfl hu (ed_v (pv 1)) ed_int) ed_int)) ed_int))) (bd_one (sd_ret (ed_and (ed_call (ok_are_joined_ways T) (hr.mono (by decide)) hgd (by rfl) T.m_are_joined_ways T.F_are_joined_ways.kp T.B_are_joined_ways (ad_cons (ed_v (pv 0)) (ad_cons (ed_v (pv 2)) ad_nil))) (ed_one (ed_cmp (od_eq hu) (ed_ixA rfl rfl hu (ed_ixA rfl rfl hu (ed_fld T.hF (na_cons T.c_Reader T.n_Reader_own_ways na_nil) (ed_v (pv 0))) (ed_ixA rfl rfl hu (ed_v (pv 2)) (ed_un un_negD ed_int))) ed_int) (ed_v (pv 3)) (nomark _))))))))))
theorem ok_Reader___init__ (T : Tx K mg) : FnG IW.P IW.w K mg base 5 T.a_Reader___init__ T.d_Reader___init__ ["self", "letters", "rooms", "ways"] (spD K 4 g_Reader___init__) := by
  refine fnD (N := N_Reader___init__) (m := b_Reader___init__) T.F_Reader___init__ sc_Reader___init__ fun cdv A outer s H E hr hg => ?_
  have hgd : A.guards = some [] := hg
  have hu := hr.units
  exact (bd_cons (sd_expr (ps_expr (ed_call (ok_want_letters T) (hr.mono (by decide)) hgd (by rfl) T.m_want_letters T.F_want_letters.kp T.B_want_letters (ad_cons (ed_v (pv 1)) ad_nil)))) (bd_cons (sd_if (WD.td (wd_or (td_not (td_val (ed_call (ok_is_count T) (hr.mono (by decide)) hgd (by rfl) T.m_is_count T.F_is_count.kp T.B_is_count (ad_cons (ed_v (pv 2)) ad_nil)))) (wd_or1 (td_not (td_chain od_le od_le ed_int (ed_v (pv 2)) (T.e_MOST_ROOMS rfl rfl (by rfl))))))) (bd_one sd_never) bd_nil) (bd_cons (sd_if (td_not (td_val (ed_call (ok_are_ways T) (hr.mono (by decide)) hgd (by rfl) T.m_are_ways T.F_are_ways.kp T.B_are_ways (ad_cons (ed_v (pv 1)) (ad_cons (ed_v (pv 2)) (ad_cons (ed_v (pv 3)) ad_nil)))))) (bd_one sd_never) bd_nil) (bd_cons (sd_fld T.hF (na_cons T.c_Reader T.n_Reader_own_letters na_nil) (ed_v (pv 0)) (ed_v (pv 1))) (bd_cons (sd_fld T.hF (na_cons T.c_Reader T.n_Reader_own_rooms na_nil) (ed_v (pv 0)) (ed_v (pv 2))) (bd_cons (sd_fld T.hF (na_cons T.c_Reader T.n_Reader_own_ways na_nil) (ed_v (pv 0)) (ed_callTy cd_tuple (by rfl) T.n_tuple (by decide +kernel) (ad_cons (ed_callB (cd_sortedA rfl rfl rfl hu) (by rfl) T.n_sorted (by decide +kernel) (ad_cons (ed_v (pv 3)) ad_nil)) ad_nil))) (bd_one (sd_fld T.hF (na_cons T.c_Reader T.n_Reader_own_by na_nil) (ed_v (pv 0)) (ed_call (ok_numbers_by T) (hr.mono (by decide)) hgd (by rfl) T.m_numbers_by T.F_numbers_by.kp T.B_numbers_by (ad_cons (ed_fld T.hF (na_cons T.c_Reader T.n_Reader_own_ways na_nil) (ed_v (pv 0))) ad_nil))))))))))
theorem ok_want_row (T : Tx K mg) : FnG IW.P IW.w K mg base 5 T.a_want_row T.d_want_row ["letters", "value"] (spD K 2 g_want_row) := by
  refine fnD (N := N_want_row) (m := b_want_row) T.F_want_row sc_want_row fun cdv A outer s H E hr hg => ?_
  have hgd : A.guards = some [] := hg
  have hu := hr.units
  exact (bd_cons (sd_if (td_not (td_val (ed_call (ok_is_row_of T) (hr.mono (by decide)) hgd (by rfl) T.m_is_row_of T.F_is_row_of.kp T.B_is_row_of (ad_cons (ed_v (pv 0)) (ad_cons (ed_v (pv 1)) ad_nil))))) (bd_one sd_never) bd_nil) (bd_one (sd_ret (ed_v (pv 1)))))
theorem ok_is_run_along (T : Tx K mg) : FnG IW.P IW.w K mg base 5 T.a_is_run_along T.d_is_run_along ["reader", "row", "value"] (spD K 3 g_is_run_along) := by
  refine fnD (N := N_is_run_along) (m := b_is_run_along) T.F_is_run_along sc_is_run_along fun cdv A outer s H E hr hg => ?_
  have hgd : A.guards = some [] := hg
  have hu := hr.units
  exact (bd_cons (sd_if (td_not (td_val (ed_call (ok_is_told_run T) (hr.mono (by decide)) hgd (by rfl) T.m_is_told_run T.F_is_told_run.kp T.B_is_told_run (ad_cons (ed_v (pv 0)) (ad_cons (ed_v (pv 2)) ad_nil))))) (bd_one (sd_ret ed_bl)) bd_nil) (bd_cons (sd_asg (L := [3, 4]) (ps_asg (ed_v (pv 1)) (gd_tup rfl (gsd_cons (gd_name (pg_name (i := 3) sc_is_run_along.nd rfl (by first | exact .inl rfl | exact .inr rfl)) (by decide)) (gsd_cons (gd_name (pg_name (i := 4) sc_is_run_along.nd rfl (by first | exact .inl rfl | exact .inr rfl)) (by decide)) gsd_nil))))) (bd_cons (sd_set (i := 5) (ps_set (i := 5) sc_is_run_along.nd rfl (by first | exact .inl rfl | exact .inr rfl) (ed_bin od_sub (ed_callB (cd_lenA rfl rfl) (by rfl) T.n_len (by decide +kernel) (ad_cons (ed_ixA rfl rfl hu (ed_v (pv 2)) ed_int) ad_nil)) (ed_callB (cd_lenA rfl rfl) (by rfl) T.n_len (by decide +kernel) (ad_cons (ed_v (pv 3)) ad_nil))))) (bd_cons (sd_if (WD.td (wd_or (td_cmp od_lt (ed_v (pv 5)) ed_int (nomark _)) (wd_or (td_cmp (od_ne hu) (ed_bin od_mod (ed_v (pv 5)) (ed_callB (cd_lenA rfl rfl) (by rfl) T.n_len (by decide +kernel) (ad_cons (ed_v (pv 4)) ad_nil))) ed_int (nomark _)) (wd_or1 (td_cmp (od_ne hu) (ed_bin od_mod (ed_callB (cd_lenA rfl rfl) (by rfl) T.n_len (by decide +kernel) (ad_cons (ed_ixA rfl rfl hu (ed_v (pv 2)) ed_int) ad_nil)) (ed_callB (cd_lenA rfl rfl) (by rfl) T.n_len (by decide +kernel) (ad_cons (ed_v (pv 4)) ad_nil))) ed_int (nomark _)))))) (bd_one (sd_ret ed_bl)) bd_nil) (bd_cons (sd_set (i := 6) (ps_set (i := 6) sc_is_run_along.nd rfl (by first | exact .inl rfl | exact .inr rfl) (ed_bin od_add (ed_callTy cd_list (by rfl) T.n_list (by decide +kernel) (ad_cons (ed_ixA rfl rfl hu (ed_v (pv 2)) ed_int) ad_nil)) (ed_callTy cd_list (by rfl) T.n_list (by decide +kernel) (ad_cons (ed_ixA rfl rfl hu (ed_v (pv 2)) ed_int) ad_nil))))) (bd_one (sd_ret (ed_callB (cd_all rfl) (by rfl) T.n_all (by decide +kernel) (ad_cons (ed_lc (own := [("place", 7), ("number", 8)]) rfl sc_is_run_along.nd (id_enm (by rfl) T.n_enumerate (ad_cons (ed_v (pv 6)) ad_nil)) (blkOk_by (own := [("place", 7), ("number", 8)]) (N := N_is_run_along) (sc := defScope s_is_run_along) (by decide +kernel)) (fun _ _ _ _ _ => (gd_tup rfl (gsd_cons (gd_name (pg_name (i := 7) sc_is_run_along.nd rfl (by first | exact .inl rfl | exact .inr rfl)) (by decide)) (gsd_cons (gd_name (pg_name (i := 8) sc_is_run_along.nd rfl (by first | exact .inl rfl | exact .inr rfl)) (by decide)) gsd_nil)))) (fun _ _ _ _ _ => (ed_cmp (od_eq hu) (ed_ixA rfl rfl hu (ed_ixA rfl rfl hu (ed_fld T.hF (na_cons T.c_Reader T.n_Reader_own_ways na_nil) (ed_v (pv 0))) (ed_v (pv 8))) ed_int) (ed_call (ok_letter_of T) (hr.mono (by decide)) hgd (by rfl) T.m_letter_of T.F_letter_of.kp T.B_letter_of (ad_cons (ed_v (pv 1)) (ad_cons (ed_v (pv 7)) ad_nil))) (nomark _)))) ad_nil)))))))))
theorem ok_slips_of (T : Tx K mg) : FnG IW.P IW.w K mg base 5 T.a_slips_of T.d_slips_of ["reader", "run"] (spD K 2 g_slips_of) := by
  refine fnD (N := N_slips_of) (m := b_slips_of) T.F_slips_of sc_slips_of fun cdv A outer s H E hr hg => ?_
  have hgd : A.guards = some [] := hg
  have hu := hr.units
  exact (bd_cons (sd_set (i := 2) (ps_set (i := 2) sc_slips_of.nd rfl (by first | exact .inl rfl | exact .inr rfl) (ed_call (ok_want_reader T) (hr.mono (by decide)) hgd (by rfl) T.m_want_reader T.F_want_reader.kp T.B_want_reader (ad_cons (ed_v (pv 0)) ad_nil)))) (bd_cons (sd_if (td_not (td_val (ed_call (ok_is_told_run T) (hr.mono (by decide)) hgd (by rfl) T.m_is_told_run T.F_is_told_run.kp T.B_is_told_run (ad_cons (ed_v (pv 2)) (ad_cons (ed_v (pv 1)) ad_nil))))) (bd_one sd_never) bd_nil) (bd_one (sd_ret (ed_call (ok_run_slips T) (hr.mono (by decide)) hgd (by rfl) T.m_run_slips T.F_run_slips.kp T.B_run_slips (ad_cons (ed_v (pv 2)) (ad_cons (ed_v (pv 1)) ad_nil)))))))
theorem ok_is_clean_along (T : Tx K mg) : FnG IW.P IW.w K mg base 6 T.a_is_clean_along T.d_is_clean_along ["reader", "row", "value"] (spD K 3 g_is_clean_along) := by
  refine fnD (N := N_is_clean_along) (m := b_is_clean_along) T.F_is_clean_along sc_is_clean_along fun cdv A outer s H E hr hg => ?_
  have hgd : A.guards = some [] := hg
  have hu := hr.units
  exact (bd_one (sd_ret (ed_and (ed_call (ok_is_run_along T) (hr.mono (by decide)) hgd (by rfl) T.m_is_run_along T.F_is_run_along.kp T.B_is_run_along (ad_cons (ed_v (pv 0)) (ad_cons (ed_v (pv 1)) (ad_cons (ed_v (pv 2)) ad_nil)))) (ed_one (ed_cmp (od_eq hu) (ed_call (ok_many_slips T) (hr.mono (by decide)) hgd (by rfl) T.m_many_slips T.F_many_slips.kp T.B_many_slips (ad_cons (ed_v (pv 0)) (ad_cons (ed_ixA rfl rfl hu (ed_v (pv 2)) ed_int) ad_nil))) ed_int (nomark _))))))
theorem ok_is_run (T : Tx K mg) : FnG IW.P IW.w K mg base 6 T.a_is_run T.d_is_run ["reader", "row", "value"] (spD K 3 g_is_run) := by
  refine fnD (N := N_is_run) (m := b_is_run) T.F_is_run sc_is_run fun cdv A outer s H E hr hg => ?_
  have hgd : A.guards = some [] := hg
  have hu := hr.units
  exact (bd_cons (sd_set (i := 3) (ps_set (i := 3) sc_is_run.nd rfl (by first | exact .inl rfl | exact .inr rfl) (ed_call (ok_want_reader T) (hr.mono (by decide)) hgd (by rfl) T.m_want_reader T.F_want_reader.kp T.B_want_reader (ad_cons (ed_v (pv 0)) ad_nil)))) (bd_one (sd_ret (ed_call (ok_is_run_along T) (hr.mono (by decide)) hgd (by rfl) T.m_is_run_along T.F_is_run_along.kp T.B_is_run_along (ad_cons (ed_v (pv 3)) (ad_cons (ed_call (ok_want_row T) (hr.mono (by decide)) hgd (by rfl) T.m_want_row T.F_want_row.kp T.B_want_row (ad_cons (ed_fld T.hF (na_cons T.c_Reader T.n_Reader_own_letters na_nil) (ed_v (pv 3))) (ad_cons (ed_v (pv 1)) ad_nil))) (ad_cons (ed_v (pv 2)) ad_nil)))))))
theorem ok_is_clean_run (T : Tx K mg) : FnG IW.P IW.w K mg base 7 T.a_is_clean_run T.d_is_clean_run ["reader", "row", "value"] (spD K 3 g_is_clean_run) := by
  refine fnD (N := N_is_clean_run) (m := b_is_clean_run) T.F_is_clean_run sc_is_clean_run fun cdv A outer s H E hr hg => ?_
  have hgd : A.guards = some [] := hg
  have hu := hr.units
  exact (bd_cons (sd_set (i := 3) (ps_set (i := 3) sc_is_clean_run.nd rfl (by first | exact .inl rfl | exact .inr rfl) (ed_call (ok_want_reader T) (hr.mono (by decide)) hgd (by rfl) T.m_want_reader T.F_want_reader.kp T.B_want_reader (ad_cons (ed_v (pv 0)) ad_nil)))) (bd_one (sd_ret (ed_call (ok_is_clean_along T) (hr.mono (by decide)) hgd (by rfl) T.m_is_clean_along T.F_is_clean_along.kp T.B_is_clean_along (ad_cons (ed_v (pv 3)) (ad_cons (ed_call (ok_want_row T) (hr.mono (by decide)) hgd (by rfl) T.m_want_row T.F_want_row.kp T.B_want_row (ad_cons (ed_fld T.hF (na_cons T.c_Reader T.n_Reader_own_letters na_nil) (ed_v (pv 3))) (ad_cons (ed_v (pv 1)) ad_nil))) (ad_cons (ed_v (pv 2)) ad_nil)))))))
theorem ok_law_right (T : Tx K mg) : FnG IW.P IW.w K mg base 8 T.a_law_right T.d_law_right ["pot"] (spD K 1 g_law_right) := by
  refine fnD (N := N_law_right) (m := b_law_right) T.F_law_right sc_law_right fun cdv A outer s H E hr hg => ?_
  have hgd : A.guards = some [] := hg
  have hu := hr.units
  exact (bd_cons (sd_asg (L := [1, 2, 3]) (ps_asg (ed_call (ok_law_reader T) (hr.mono (by decide)) hgd (by rfl) T.m_law_reader T.F_law_reader.kp T.B_law_reader (ad_cons (ed_v (pv 0)) (ad_cons (ed_bin od_add ed_int (ed_call (ok_law_draw T) (hr.mono (by decide)) hgd (by rfl) T.m_law_draw T.F_law_draw.kp T.B_law_draw (ad_cons (ed_v (pv 0)) (ad_cons ed_int ad_nil)))) (ad_cons ed_int ad_nil)))) (gd_tup rfl (gsd_cons (gd_name (pg_name (i := 1) sc_law_right.nd rfl (by first | exact .inl rfl | exact .inr rfl)) (by decide)) (gsd_cons (gd_name (pg_name (i := 2) sc_law_right.nd rfl (by first | exact .inl rfl | exact .inr rfl)) (by decide)) (gsd_cons (gd_name (pg_name (i := 3) sc_law_right.nd rfl (by first | exact .inl rfl | exact .inr rfl)) (by decide)) gsd_nil)))))) (bd_cons (sd_par (i := 4) (j := 5) (ps_par rfl sc_law_right.nd rfl rfl (by decide) rfl rfl (ad_cons (ed_fz (ed_mk T.c_Reader T.k_Reader (ok_Reader___init__ T) (hr.mono (by decide)) hgd (by rfl) T.m_Reader T.B_Reader___init__ (ad_cons (ed_v (pv 1)) (ad_cons (ed_v (pv 2)) (ad_cons (ed_v (pv 3)) ad_nil))))) (ad_cons (ed_call (ok_law_row T) (hr.mono (by decide)) hgd (by rfl) T.m_law_row T.F_law_row.kp T.B_law_row (ad_cons (ed_v (pv 0)) (ad_cons (ed_v (pv 1)) ad_nil))) ad_nil)) (by rfl))) (bd_cons (sd_par (i := 6) (j := 7) (ps_par rfl sc_law_right.nd rfl rfl (by decide) rfl rfl (ad_cons (ed_call (ok_law_walk T) (hr.mono (by decide)) hgd (by rfl) T.m_law_walk T.F_law_walk.kp T.B_law_walk (ad_cons (ed_v (pv 0)) (ad_cons (ed_v (pv 3)) (ad_cons (ed_v (pv 5)) ad_nil)))) (ad_cons (ed_call (ok_law_row T) (hr.mono (by decide)) hgd (by rfl) T.m_law_row T.F_law_row.kp T.B_law_row (ad_cons (ed_v (pv 0)) (ad_cons (ed_v (pv 1)) ad_nil))) ad_nil)) (by rfl))) (bd_cons (sd_set (i := 8) (ps_set (i := 8) sc_law_right.nd rfl (by first | exact .inl rfl | exact .inr rfl) (ed_new (ad_cons (ed_v (pv 6)) (ad_cons (ed_tup (ad_cons (ed_ixA rfl rfl hu (ed_v (pv 6)) ed_int) (ad_cons (ed_lst ad_nil) ad_nil))) (ad_cons (ed_tup (ad_cons (ed_ixA rfl rfl hu (ed_v (pv 6)) ed_int) (ad_cons (ed_ixA rfl rfl hu (ed_v (pv 6)) ed_int) ad_nil))) (ad_cons ed_non (ad_cons ed_bl (ad_cons ed_str (ad_cons (ed_lst ad_nil) (ad_cons (ed_tup ad_nil) (ad_cons (ed_tup (ad_cons (ed_lst ad_nil) (ad_cons (ed_lst (ad_cons ed_int ad_nil)) ad_nil))) (ad_cons (ed_fz ed_newT) ad_nil))))))))))))) (bd_cons (sd_for (L := [9]) PassesOwn.never rfl (id_rng1 (pi_range1 (by rfl) T.n_range (ad_cons ed_int ad_nil))) (gd_name (pg_name (i := 9) sc_law_right.nd rfl (by first | exact .inl rfl | exact .inr rfl)) (by decide)) (bd_one (sd_expr (ps_expr (ed_bm PySem.F.slot_list_append PySem.F.type_list_append mt_app (ed_v (pv 8)) (ad_cons (ed_call (ok_law_bent T) (hr.mono (by decide)) hgd (by rfl) T.m_law_bent T.F_law_bent.kp T.B_law_bent (ad_cons (ed_v (pv 0)) (ad_cons (ed_v (pv 6)) (ad_cons (ed_v (pv 3)) ad_nil)))) ad_nil)))))) (bd_cons (sd_if (td_not (td_val (ed_call (ok_law_is_run T) (hr.mono (by decide)) hgd (by rfl) T.m_law_is_run T.F_law_is_run.kp T.B_law_is_run (ad_cons (ed_v (pv 3)) (ad_cons (ed_v (pv 5)) (ad_cons (ed_v (pv 6)) ad_nil)))))) (bd_one (sd_ret ed_bl)) bd_nil) (bd_cons (sd_for (L := [10]) PassesOwn.never rfl (id_seq (ed_v (pv 8))) (gd_name (pg_name (i := 10) sc_law_right.nd rfl (by first | exact .inl rfl | exact .inr rfl)) (by decide)) (bd_one (sd_for (L := [11]) PassesOwn.never rfl (id_seq (ed_lst (ad_cons (ed_v (pv 5)) (ad_cons (ed_v (pv 7)) (ad_cons (ed_tup (ad_cons (ed_ixA rfl rfl hu (ed_v (pv 5)) ed_int) (ad_cons (ed_bin od_mul (ed_ixA rfl rfl hu (ed_v (pv 5)) ed_int) ed_int) ad_nil))) (ad_cons (ed_tup (ad_cons (ed_bin od_add (ed_ixA rfl rfl hu (ed_v (pv 5)) ed_int) (ed_ixA rfl rfl hu (ed_v (pv 5)) ed_int)) (ad_cons (ed_ixA rfl rfl hu (ed_v (pv 5)) ed_int) ad_nil))) ad_nil)))))) (gd_name (pg_name (i := 11) sc_law_right.nd rfl (by first | exact .inl rfl | exact .inr rfl)) (by decide)) (bd_cons (sd_par (i := 14) (j := 15) (ps_par rfl sc_law_right.nd rfl rfl (by decide) rfl rfl (ad_cons (ed_call (ok_law_is_run T) (hr.mono (by decide)) hgd (by rfl) T.m_law_is_run T.F_law_is_run.kp T.B_law_is_run (ad_cons (ed_v (pv 3)) (ad_cons (ed_v (pv 11)) (ad_cons (ed_v (pv 10)) ad_nil)))) (ad_cons (ed_callB (cd_reprA hgd hu) (by rfl) T.n_repr (by decide +kernel) (ad_cons (ed_v (pv 10)) ad_nil)) ad_nil)) (by rfl))) (bd_cons (sd_set (i := 12) (ps_set (i := 12) sc_law_right.nd rfl (by first | exact .inl rfl | exact .inr rfl) (ed_if (td_val (ed_v (pv 14))) (ed_lc (own := [("part", 16)]) rfl sc_law_right.nd (id_seq (ed_v (pv 10))) (blkOk_by (own := [("part", 16)]) (N := N_law_right) (sc := defScope s_law_right) (by decide +kernel)) (fun _ _ _ _ _ => (gd_name (pg_name (i := 16) sc_law_right.nd rfl (by first | exact .inl rfl | exact .inr rfl)) (by decide))) (fun _ _ _ _ _ => (ed_lcIf (own := [("number", 17)]) rfl sc_law_right.nd (id_seq (ed_v (pv 16))) (blkOk_by (own := [("number", 17)]) (N := N_law_right) (sc := { kind := .function, names := [(".0", .local), ("part", .local), ("ways", .cell)], isGenerator := false, isCoroutine := false }) (by decide +kernel)) (fun _ _ _ _ _ => (gd_name (pg_name (i := 17) sc_law_right.nd rfl (by first | exact .inl rfl | exact .inr rfl)) (by decide))) (fun _ _ _ _ _ => (td_cmp (od_eq hu) (ed_ixA rfl rfl hu (ed_ixA rfl rfl hu (ed_v (pv 3)) (ed_v (pv 17))) ed_int) ed_int (nomark _))) (fun _ _ _ _ _ => (ed_v (pv 17)))))) (ed_lst ad_nil)))) (bd_cons (sd_set (i := 13) (ps_set (i := 13) sc_law_right.nd rfl (by first | exact .inl rfl | exact .inr rfl) (ed_and (ed_v (pv 14)) (ed_one (ed_cmp (od_eq hu) (ed_ixA rfl rfl hu (ed_v (pv 12)) ed_int) (ed_lst ad_nil) (nomark _)))))) (bd_cons (sd_if (td_cmp (od_ne hu) (ed_callB (cd_reprA hgd hu) (by rfl) T.n_repr (by decide +kernel) (ad_cons (ed_lst (ad_cons (ed_callK0 (ok_is_run T) (hr.mono (by decide)) hgd (by rfl) T.m_is_run T.F_is_run.kp T.K_is_run_0_value_row_reader (kd_cons (ed_v (pv 10)) (kd_cons (ed_v (pv 11)) (kd_cons (ed_v (pv 4)) kd_nil)))) (ad_cons (ed_call (ok_is_clean_run T) (hr.mono (by decide)) hgd (by rfl) T.m_is_clean_run T.F_is_clean_run.kp T.B_is_clean_run (ad_cons (ed_v (pv 4)) (ad_cons (ed_v (pv 11)) (ad_cons (ed_v (pv 10)) ad_nil)))) ad_nil))) ad_nil)) (ed_callB (cd_reprA hgd hu) (by rfl) T.n_repr (by decide +kernel) (ad_cons (ed_lst (ad_cons (ed_v (pv 14)) (ad_cons (ed_v (pv 13)) ad_nil))) ad_nil)) (nomark _)) (bd_one (sd_ret ed_bl)) bd_nil) (bd_one (sd_if (WD.td (wd_or (WD.td (wd_and (td_val (ed_v (pv 14))) (wd_and1 (td_cmp (od_ne hu) (ed_callB (cd_reprA hgd hu) (by rfl) T.n_repr (by decide +kernel) (ad_cons (ed_call (ok_slips_of T) (hr.mono (by decide)) hgd (by rfl) T.m_slips_of T.F_slips_of.kp T.B_slips_of (ad_cons (ed_v (pv 4)) (ad_cons (ed_v (pv 10)) ad_nil))) ad_nil)) (ed_callB (cd_reprA hgd hu) (by rfl) T.n_repr (by decide +kernel) (ad_cons (ed_tup (ad_cons (ed_callB (cd_lenA rfl rfl) (by rfl) T.n_len (by decide +kernel) (ad_cons (ed_ixA rfl rfl hu (ed_v (pv 12)) ed_int) ad_nil)) (ad_cons (ed_callB (cd_lenA rfl rfl) (by rfl) T.n_len (by decide +kernel) (ad_cons (ed_ixA rfl rfl hu (ed_v (pv 12)) ed_int) ad_nil)) ad_nil))) ad_nil)) (nomark _))))) (wd_or1 (td_cmp (od_ne hu) (ed_callB (cd_reprA hgd hu) (by rfl) T.n_repr (by decide +kernel) (ad_cons (ed_v (pv 10)) ad_nil)) (ed_v (pv 15)) (nomark _))))) (bd_one (sd_ret ed_bl)) bd_nil))))))))) (bd_cons (sd_set (i := 13) (ps_set (i := 13) sc_law_right.nd rfl (by first | exact .inl rfl | exact .inr rfl) (ed_cmp (od_eq hu) (ed_lcIf (own := [("number", 17)]) rfl sc_law_right.nd (id_seq (ed_ixA rfl rfl hu (ed_v (pv 6)) ed_int)) (blkOk_by (own := [("number", 17)]) (N := N_law_right) (sc := defScope s_law_right) (by decide +kernel)) (fun _ _ _ _ _ => (gd_name (pg_name (i := 17) sc_law_right.nd rfl (by first | exact .inl rfl | exact .inr rfl)) (by decide))) (fun _ _ _ _ _ => (td_cmp (od_eq hu) (ed_ixA rfl rfl hu (ed_ixA rfl rfl hu (ed_v (pv 3)) (ed_v (pv 17))) ed_int) ed_int (nomark _))) (fun _ _ _ _ _ => (ed_v (pv 17)))) (ed_lst ad_nil) (nomark _)))) (bd_cons (sd_if (td_cmp (od_ne hu) (ed_callB (cd_reprA hgd hu) (by rfl) T.n_repr (by decide +kernel) (ad_cons (ed_callK0 (ok_is_clean_run T) (hr.mono (by decide)) hgd (by rfl) T.m_is_clean_run T.F_is_clean_run.kp T.K_is_clean_run_0_value_row_reader (kd_cons (ed_v (pv 6)) (kd_cons (ed_v (pv 5)) (kd_cons (ed_v (pv 4)) kd_nil)))) ad_nil)) (ed_callB (cd_reprA hgd hu) (by rfl) T.n_repr (by decide +kernel) (ad_cons (ed_v (pv 13)) ad_nil)) (nomark _)) (bd_one (sd_ret ed_bl)) bd_nil) (bd_one (sd_ret (ed_and (ed_cmp od_is (ed_call (ok_is_run T) (hr.mono (by decide)) hgd (by rfl) T.m_is_run T.F_is_run.kp T.B_is_run (ad_cons (ed_v (pv 4)) (ad_cons (ed_v (pv 5)) (ad_cons (ed_v (pv 6)) ad_nil)))) ed_bl (nomark _)) (ed_one (ed_cmp (od_eq hu) (ed_callB (cd_reprA hgd hu) (by rfl) T.n_repr (by decide +kernel) (ad_cons (ed_callK0 (ok_slips_of T) (hr.mono (by decide)) hgd (by rfl) T.m_slips_of T.F_slips_of.kp T.K_slips_of_0_run_reader (kd_cons (ed_v (pv 6)) (kd_cons (ed_v (pv 4)) kd_nil))) ad_nil)) (ed_callB (cd_reprA hgd hu) (by rfl) T.n_repr (by decide +kernel) (ad_cons (ed_call (ok_slips_of T) (hr.mono (by decide)) hgd (by rfl) T.m_slips_of T.F_slips_of.kp T.B_slips_of (ad_cons (ed_v (pv 4)) (ad_cons (ed_v (pv 6)) ad_nil))) ad_nil)) (nomark _)))))))))))))))
theorem ok_law (T : Tx K mg) : FnG IW.P IW.w K mg base 9 T.a_law T.d_law ["script"] (spD K 1 g_law) := by
  refine fnD (N := N_law) (m := b_law) T.F_law sc_law fun cdv A outer s H E hr hg => ?_
  have hgd : A.guards = some [] := hg
  have hu := hr.units
  exact (bd_one (sd_ret (ed_call (ok_law_right T) (hr.mono (by decide)) hgd (by rfl) T.m_law_right T.F_law_right.kp T.B_law_right (ad_cons (ed_call (okL_law_pot T) (hr.mono (by decide)) hgd (by rfl) T.m_law_pot T.F_law_pot.kp T.B_law_pot (ad_cons (ed_v (pv 0)) (ad_cons ed_int ad_nil))) ad_nil))))
end
end K31
namespace K31
open PySem PySem.Spec PyProof.Rows L2 DD
/-! ### the end -/
theorem all_mk (P : Program) (w : World) {K : PySem.W.Frag} {h : Heap} {mg : Str → Option Value} (X : K.In h) (G : h.Ns mainGlobals mg)
    {f0 f1 f2 f3 f4 f5 f6 f7 f8 f9 f10 f11 f12 f13 f14 f15 f16 f17 f18 f19 f20 f21 f22 f23 f24 f25 f26 f27 f28 f29 f30 f31 f32 f33 f34 f35 C_Reader : Addr} {od0 an0 od1 an1 od2 an2 od3 an3 od4 an4 od5 an5 od6 an6 od7 an7 od8 an8 od9 an9 od10 an10 od11 an11 od12 an12 od13 an13 od14 an14 od15 an15 od16 an16 od17 an17 od18 an18 od19 an19 od20 an20 od21 an21 od22 an22 od23 an23 od24 an24 od25 an25 od26 an26 od27 an27 od28 an28 od29 an29 od30 an30 od31 an31 od32 an32 od33 an33 od34 an34 od35 an35 : Option Addr} {sl0 sl1 sl2 sl3 sl4 sl5 sl6 sl7 sl8 sl9 sl10 sl11 sl12 sl13 sl14 sl15 sl16 sl17 sl18 sl19 sl20 sl21 sl22 sl23 sl24 sl25 sl26 sl27 sl28 sl29 sl30 sl31 sl32 sl33 sl34 sl35 : Array (Option Value)} {oc0 kV0 dc0 pm0 cd0 ct0 oc1 kV1 dc1 pm1 cd1 ct1 oc2 kV2 dc2 pm2 cd2 ct2 oc3 kV3 dc3 pm3 cd3 ct3 oc4 kV4 dc4 pm4 cd4 ct4 oc5 kV5 dc5 pm5 cd5 ct5 oc6 kV6 dc6 pm6 cd6 ct6 oc7 kV7 dc7 pm7 cd7 ct7 oc8 kV8 dc8 pm8 cd8 ct8 oc9 kV9 dc9 pm9 cd9 ct9 oc10 kV10 dc10 pm10 cd10 ct10 oc11 kV11 dc11 pm11 cd11 ct11 oc12 kV12 dc12 pm12 cd12 ct12 oc13 kV13 dc13 pm13 cd13 ct13 oc14 kV14 dc14 pm14 cd14 ct14 oc15 kV15 dc15 pm15 cd15 ct15 oc16 kV16 dc16 pm16 cd16 ct16 oc17 kV17 dc17 pm17 cd17 ct17 oc18 kV18 dc18 pm18 cd18 ct18 oc19 kV19 dc19 pm19 cd19 ct19 oc20 kV20 dc20 pm20 cd20 ct20 oc21 kV21 dc21 pm21 cd21 ct21 oc22 kV22 dc22 pm22 cd22 ct22 oc23 kV23 dc23 pm23 cd23 ct23 oc24 kV24 dc24 pm24 cd24 ct24 oc25 kV25 dc25 pm25 cd25 ct25 oc26 kV26 dc26 pm26 cd26 ct26 oc27 kV27 dc27 pm27 cd27 ct27 oc28 kV28 dc28 pm28 cd28 ct28 oc29 kV29 dc29 pm29 cd29 ct29 oc30 kV30 dc30 pm30 cd30 ct30 oc31 kV31 dc31 pm31 cd31 ct31 oc32 kV32 dc32 pm32 cd32 ct32 oc33 kV33 dc33 pm33 cd33 ct33 oc34 kV34 dc34 pm34 cd34 ct34 oc35 kV35 dc35 pm35 cd35 ct35 : Value} {t0_MOST_BEGIN t1_MOST_HEAD t2_MOST_LETTERS t3_MOST_LOOP t4_MOST_ROOMS t5_MOST_WAYS t6_WAY_PARTS : Tok}
    (aC_Reader : PySem.W.nsIn K mainGlobals "Reader" = some (some (.ref C_Reader)))
    (a0 : PySem.W.nsIn K mainGlobals "is_integer" = some (some (.ref f0)))
    (l0 : K.lookup f0 = some ⟨oc0, od0, .func (PySem.W.fnOf "is_integer" "is_integer" (defArgs s_is_integer) (defBody s_is_integer) (defScope s_is_integer) .none kV0 dc0 pm0 an0 cd0 ct0), sl0⟩)
    (c0 : PySem.W.codeIn K cd0 "is_integer" = true)
    (k0 : PySem.W.keepIn K (.ref f0) = true)
    (a1 : PySem.W.nsIn K mainGlobals "is_list" = some (some (.ref f1)))
    (l1 : K.lookup f1 = some ⟨oc1, od1, .func (PySem.W.fnOf "is_list" "is_list" (defArgs s_is_list) (defBody s_is_list) (defScope s_is_list) .none kV1 dc1 pm1 an1 cd1 ct1), sl1⟩)
    (c1 : PySem.W.codeIn K cd1 "is_list" = true)
    (k1 : PySem.W.keepIn K (.ref f1) = true)
    (a2 : PySem.W.nsIn K mainGlobals "numbers_by" = some (some (.ref f2)))
    (l2 : K.lookup f2 = some ⟨oc2, od2, .func (PySem.W.fnOf "numbers_by" "numbers_by" (defArgs s_numbers_by) (defBody s_numbers_by) (defScope s_numbers_by) .none kV2 dc2 pm2 an2 cd2 ct2), sl2⟩)
    (c2 : PySem.W.codeIn K cd2 "numbers_by" = true)
    (k2 : PySem.W.keepIn K (.ref f2) = true)
    (a3 : PySem.W.nsIn K mainGlobals "want_reader" = some (some (.ref f3)))
    (l3 : K.lookup f3 = some ⟨oc3, od3, .func (PySem.W.fnOf "want_reader" "want_reader" (defArgs s_want_reader) (defBody s_want_reader) (defScope s_want_reader) .none kV3 dc3 pm3 an3 cd3 ct3), sl3⟩)
    (c3 : PySem.W.codeIn K cd3 "want_reader" = true)
    (k3 : PySem.W.keepIn K (.ref f3) = true)
    (a4 : PySem.W.nsIn K mainGlobals "letter_of" = some (some (.ref f4)))
    (l4 : K.lookup f4 = some ⟨oc4, od4, .func (PySem.W.fnOf "letter_of" "letter_of" (defArgs s_letter_of) (defBody s_letter_of) (defScope s_letter_of) .none kV4 dc4 pm4 an4 cd4 ct4), sl4⟩)
    (c4 : PySem.W.codeIn K cd4 "letter_of" = true)
    (k4 : PySem.W.keepIn K (.ref f4) = true)
    (a5 : PySem.W.nsIn K mainGlobals "are_joined_ways" = some (some (.ref f5)))
    (l5 : K.lookup f5 = some ⟨oc5, od5, .func (PySem.W.fnOf "are_joined_ways" "are_joined_ways" (defArgs s_are_joined_ways) (defBody s_are_joined_ways) (defScope s_are_joined_ways) .none kV5 dc5 pm5 an5 cd5 ct5), sl5⟩)
    (c5 : PySem.W.codeIn K cd5 "are_joined_ways" = true)
    (k5 : PySem.W.keepIn K (.ref f5) = true)
    (a6 : PySem.W.nsIn K mainGlobals "many_slips" = some (some (.ref f6)))
    (l6 : K.lookup f6 = some ⟨oc6, od6, .func (PySem.W.fnOf "many_slips" "many_slips" (defArgs s_many_slips) (defBody s_many_slips) (defScope s_many_slips) .none kV6 dc6 pm6 an6 cd6 ct6), sl6⟩)
    (c6 : PySem.W.codeIn K cd6 "many_slips" = true)
    (k6 : PySem.W.keepIn K (.ref f6) = true)
    (a7 : PySem.W.nsIn K mainGlobals "_law_pot" = some (some (.ref f7)))
    (l7 : K.lookup f7 = some ⟨oc7, od7, .func (PySem.W.fnOf "_law_pot" "_law_pot" (defArgs s_law_pot) (defBody s_law_pot) (defScope s_law_pot) .none kV7 dc7 pm7 an7 cd7 ct7), sl7⟩)
    (c7 : PySem.W.codeIn K cd7 "_law_pot" = true)
    (k7 : PySem.W.keepIn K (.ref f7) = true)
    (a8 : PySem.W.nsIn K mainGlobals "_law_draw" = some (some (.ref f8)))
    (l8 : K.lookup f8 = some ⟨oc8, od8, .func (PySem.W.fnOf "_law_draw" "_law_draw" (defArgs s_law_draw) (defBody s_law_draw) (defScope s_law_draw) .none kV8 dc8 pm8 an8 cd8 ct8), sl8⟩)
    (c8 : PySem.W.codeIn K cd8 "_law_draw" = true)
    (k8 : PySem.W.keepIn K (.ref f8) = true)
    (a9 : PySem.W.nsIn K mainGlobals "_law_letter" = some (some (.ref f9)))
    (l9 : K.lookup f9 = some ⟨oc9, od9, .func (PySem.W.fnOf "_law_letter" "_law_letter" (defArgs s_law_letter) (defBody s_law_letter) (defScope s_law_letter) .none kV9 dc9 pm9 an9 cd9 ct9), sl9⟩)
    (c9 : PySem.W.codeIn K cd9 "_law_letter" = true)
    (k9 : PySem.W.keepIn K (.ref f9) = true)
    (a10 : PySem.W.nsIn K mainGlobals "_law_is_list" = some (some (.ref f10)))
    (l10 : K.lookup f10 = some ⟨oc10, od10, .func (PySem.W.fnOf "_law_is_list" "_law_is_list" (defArgs s_law_is_list) (defBody s_law_is_list) (defScope s_law_is_list) .none kV10 dc10 pm10 an10 cd10 ct10), sl10⟩)
    (c10 : PySem.W.codeIn K cd10 "_law_is_list" = true)
    (k10 : PySem.W.keepIn K (.ref f10) = true)
    (a11 : PySem.W.nsIn K mainGlobals "is_count" = some (some (.ref f11)))
    (l11 : K.lookup f11 = some ⟨oc11, od11, .func (PySem.W.fnOf "is_count" "is_count" (defArgs s_is_count) (defBody s_is_count) (defScope s_is_count) .none kV11 dc11 pm11 an11 cd11 ct11), sl11⟩)
    (c11 : PySem.W.codeIn K cd11 "is_count" = true)
    (k11 : PySem.W.keepIn K (.ref f11) = true)
    (a12 : PySem.W.nsIn K mainGlobals "run_slips" = some (some (.ref f12)))
    (l12 : K.lookup f12 = some ⟨oc12, od12, .func (PySem.W.fnOf "run_slips" "run_slips" (defArgs s_run_slips) (defBody s_run_slips) (defScope s_run_slips) .none kV12 dc12 pm12 an12 cd12 ct12), sl12⟩)
    (c12 : PySem.W.codeIn K cd12 "run_slips" = true)
    (k12 : PySem.W.keepIn K (.ref f12) = true)
    (a13 : PySem.W.nsIn K mainGlobals "_law_pick" = some (some (.ref f13)))
    (l13 : K.lookup f13 = some ⟨oc13, od13, .func (PySem.W.fnOf "_law_pick" "_law_pick" (defArgs s_law_pick) (defBody s_law_pick) (defScope s_law_pick) .none kV13 dc13 pm13 an13 cd13 ct13), sl13⟩)
    (c13 : PySem.W.codeIn K cd13 "_law_pick" = true)
    (k13 : PySem.W.keepIn K (.ref f13) = true)
    (a14 : PySem.W.nsIn K mainGlobals "_law_reader" = some (some (.ref f14)))
    (l14 : K.lookup f14 = some ⟨oc14, od14, .func (PySem.W.fnOf "_law_reader" "_law_reader" (defArgs s_law_reader) (defBody s_law_reader) (defScope s_law_reader) .none kV14 dc14 pm14 an14 cd14 ct14), sl14⟩)
    (c14 : PySem.W.codeIn K cd14 "_law_reader" = true)
    (k14 : PySem.W.keepIn K (.ref f14) = true)
    (a15 : PySem.W.nsIn K mainGlobals "_law_letters" = some (some (.ref f15)))
    (l15 : K.lookup f15 = some ⟨oc15, od15, .func (PySem.W.fnOf "_law_letters" "_law_letters" (defArgs s_law_letters) (defBody s_law_letters) (defScope s_law_letters) .none kV15 dc15 pm15 an15 cd15 ct15), sl15⟩)
    (c15 : PySem.W.codeIn K cd15 "_law_letters" = true)
    (k15 : PySem.W.keepIn K (.ref f15) = true)
    (a16 : PySem.W.nsIn K mainGlobals "_law_is_run" = some (some (.ref f16)))
    (l16 : K.lookup f16 = some ⟨oc16, od16, .func (PySem.W.fnOf "_law_is_run" "_law_is_run" (defArgs s_law_is_run) (defBody s_law_is_run) (defScope s_law_is_run) .none kV16 dc16 pm16 an16 cd16 ct16), sl16⟩)
    (c16 : PySem.W.codeIn K cd16 "_law_is_run" = true)
    (k16 : PySem.W.keepIn K (.ref f16) = true)
    (a17 : PySem.W.nsIn K mainGlobals "want_letters" = some (some (.ref f17)))
    (l17 : K.lookup f17 = some ⟨oc17, od17, .func (PySem.W.fnOf "want_letters" "want_letters" (defArgs s_want_letters) (defBody s_want_letters) (defScope s_want_letters) .none kV17 dc17 pm17 an17 cd17 ct17), sl17⟩)
    (c17 : PySem.W.codeIn K cd17 "want_letters" = true)
    (k17 : PySem.W.keepIn K (.ref f17) = true)
    (a18 : PySem.W.nsIn K mainGlobals "is_way_of" = some (some (.ref f18)))
    (l18 : K.lookup f18 = some ⟨oc18, od18, .func (PySem.W.fnOf "is_way_of" "is_way_of" (defArgs s_is_way_of) (defBody s_is_way_of) (defScope s_is_way_of) .none kV18 dc18 pm18 an18 cd18 ct18), sl18⟩)
    (c18 : PySem.W.codeIn K cd18 "is_way_of" = true)
    (k18 : PySem.W.keepIn K (.ref f18) = true)
    (a19 : PySem.W.nsIn K mainGlobals "are_letters" = some (some (.ref f19)))
    (l19 : K.lookup f19 = some ⟨oc19, od19, .func (PySem.W.fnOf "are_letters" "are_letters" (defArgs s_are_letters) (defBody s_are_letters) (defScope s_are_letters) .none kV19 dc19 pm19 an19 cd19 ct19), sl19⟩)
    (c19 : PySem.W.codeIn K cd19 "are_letters" = true)
    (k19 : PySem.W.keepIn K (.ref f19) = true)
    (a20 : PySem.W.nsIn K mainGlobals "is_ways_list" = some (some (.ref f20)))
    (l20 : K.lookup f20 = some ⟨oc20, od20, .func (PySem.W.fnOf "is_ways_list" "is_ways_list" (defArgs s_is_ways_list) (defBody s_is_ways_list) (defScope s_is_ways_list) .none kV20 dc20 pm20 an20 cd20 ct20), sl20⟩)
    (c20 : PySem.W.codeIn K cd20 "is_ways_list" = true)
    (k20 : PySem.W.keepIn K (.ref f20) = true)
    (a21 : PySem.W.nsIn K mainGlobals "_law_row" = some (some (.ref f21)))
    (l21 : K.lookup f21 = some ⟨oc21, od21, .func (PySem.W.fnOf "_law_row" "_law_row" (defArgs s_law_row) (defBody s_law_row) (defScope s_law_row) .none kV21 dc21 pm21 an21 cd21 ct21), sl21⟩)
    (c21 : PySem.W.codeIn K cd21 "_law_row" = true)
    (k21 : PySem.W.keepIn K (.ref f21) = true)
    (a22 : PySem.W.nsIn K mainGlobals "_law_walk" = some (some (.ref f22)))
    (l22 : K.lookup f22 = some ⟨oc22, od22, .func (PySem.W.fnOf "_law_walk" "_law_walk" (defArgs s_law_walk) (defBody s_law_walk) (defScope s_law_walk) .none kV22 dc22 pm22 an22 cd22 ct22), sl22⟩)
    (c22 : PySem.W.codeIn K cd22 "_law_walk" = true)
    (k22 : PySem.W.keepIn K (.ref f22) = true)
    (a23 : PySem.W.nsIn K mainGlobals "_law_bent" = some (some (.ref f23)))
    (l23 : K.lookup f23 = some ⟨oc23, od23, .func (PySem.W.fnOf "_law_bent" "_law_bent" (defArgs s_law_bent) (defBody s_law_bent) (defScope s_law_bent) .none kV23 dc23 pm23 an23 cd23 ct23), sl23⟩)
    (c23 : PySem.W.codeIn K cd23 "_law_bent" = true)
    (k23 : PySem.W.keepIn K (.ref f23) = true)
    (a24 : PySem.W.nsIn K mainGlobals "are_ways" = some (some (.ref f24)))
    (l24 : K.lookup f24 = some ⟨oc24, od24, .func (PySem.W.fnOf "are_ways" "are_ways" (defArgs s_are_ways) (defBody s_are_ways) (defScope s_are_ways) .none kV24 dc24 pm24 an24 cd24 ct24), sl24⟩)
    (c24 : PySem.W.codeIn K cd24 "are_ways" = true)
    (k24 : PySem.W.keepIn K (.ref f24) = true)
    (a25 : PySem.W.nsIn K mainGlobals "is_row_of" = some (some (.ref f25)))
    (l25 : K.lookup f25 = some ⟨oc25, od25, .func (PySem.W.fnOf "is_row_of" "is_row_of" (defArgs s_is_row_of) (defBody s_is_row_of) (defScope s_is_row_of) .none kV25 dc25 pm25 an25 cd25 ct25), sl25⟩)
    (c25 : PySem.W.codeIn K cd25 "is_row_of" = true)
    (k25 : PySem.W.keepIn K (.ref f25) = true)
    (a26 : PySem.W.nsIn K mainGlobals "is_told_run" = some (some (.ref f26)))
    (l26 : K.lookup f26 = some ⟨oc26, od26, .func (PySem.W.fnOf "is_told_run" "is_told_run" (defArgs s_is_told_run) (defBody s_is_told_run) (defScope s_is_told_run) .none kV26 dc26 pm26 an26 cd26 ct26), sl26⟩)
    (c26 : PySem.W.codeIn K cd26 "is_told_run" = true)
    (k26 : PySem.W.keepIn K (.ref f26) = true)
    (a27 : PySem.W.findIn K (.ref C_Reader) "__init__" = some (some (.ref f27)))
    (i27 : PySem.W.isFn K (.ref f27) = true)
    (l27 : K.lookup f27 = some ⟨oc27, od27, .func (PySem.W.fnOf "__init__" "Reader.__init__" (defArgs s_Reader___init__) (defBody s_Reader___init__) (defScope s_Reader___init__) .none kV27 dc27 pm27 an27 cd27 ct27), sl27⟩)
    (c27 : PySem.W.codeIn K cd27 "Reader.__init__" = true)
    (k27 : PySem.W.keepIn K (.ref f27) = true)
    (a28 : PySem.W.nsIn K mainGlobals "want_row" = some (some (.ref f28)))
    (l28 : K.lookup f28 = some ⟨oc28, od28, .func (PySem.W.fnOf "want_row" "want_row" (defArgs s_want_row) (defBody s_want_row) (defScope s_want_row) .none kV28 dc28 pm28 an28 cd28 ct28), sl28⟩)
    (c28 : PySem.W.codeIn K cd28 "want_row" = true)
    (k28 : PySem.W.keepIn K (.ref f28) = true)
    (a29 : PySem.W.nsIn K mainGlobals "is_run_along" = some (some (.ref f29)))
    (l29 : K.lookup f29 = some ⟨oc29, od29, .func (PySem.W.fnOf "is_run_along" "is_run_along" (defArgs s_is_run_along) (defBody s_is_run_along) (defScope s_is_run_along) .none kV29 dc29 pm29 an29 cd29 ct29), sl29⟩)
    (c29 : PySem.W.codeIn K cd29 "is_run_along" = true)
    (k29 : PySem.W.keepIn K (.ref f29) = true)
    (a30 : PySem.W.nsIn K mainGlobals "slips_of" = some (some (.ref f30)))
    (l30 : K.lookup f30 = some ⟨oc30, od30, .func (PySem.W.fnOf "slips_of" "slips_of" (defArgs s_slips_of) (defBody s_slips_of) (defScope s_slips_of) .none kV30 dc30 pm30 an30 cd30 ct30), sl30⟩)
    (c30 : PySem.W.codeIn K cd30 "slips_of" = true)
    (k30 : PySem.W.keepIn K (.ref f30) = true)
    (a31 : PySem.W.nsIn K mainGlobals "is_clean_along" = some (some (.ref f31)))
    (l31 : K.lookup f31 = some ⟨oc31, od31, .func (PySem.W.fnOf "is_clean_along" "is_clean_along" (defArgs s_is_clean_along) (defBody s_is_clean_along) (defScope s_is_clean_along) .none kV31 dc31 pm31 an31 cd31 ct31), sl31⟩)
    (c31 : PySem.W.codeIn K cd31 "is_clean_along" = true)
    (k31 : PySem.W.keepIn K (.ref f31) = true)
    (a32 : PySem.W.nsIn K mainGlobals "is_run" = some (some (.ref f32)))
    (l32 : K.lookup f32 = some ⟨oc32, od32, .func (PySem.W.fnOf "is_run" "is_run" (defArgs s_is_run) (defBody s_is_run) (defScope s_is_run) .none kV32 dc32 pm32 an32 cd32 ct32), sl32⟩)
    (c32 : PySem.W.codeIn K cd32 "is_run" = true)
    (k32 : PySem.W.keepIn K (.ref f32) = true)
    (a33 : PySem.W.nsIn K mainGlobals "is_clean_run" = some (some (.ref f33)))
    (l33 : K.lookup f33 = some ⟨oc33, od33, .func (PySem.W.fnOf "is_clean_run" "is_clean_run" (defArgs s_is_clean_run) (defBody s_is_clean_run) (defScope s_is_clean_run) .none kV33 dc33 pm33 an33 cd33 ct33), sl33⟩)
    (c33 : PySem.W.codeIn K cd33 "is_clean_run" = true)
    (k33 : PySem.W.keepIn K (.ref f33) = true)
    (a34 : PySem.W.nsIn K mainGlobals "_law_right" = some (some (.ref f34)))
    (l34 : K.lookup f34 = some ⟨oc34, od34, .func (PySem.W.fnOf "_law_right" "_law_right" (defArgs s_law_right) (defBody s_law_right) (defScope s_law_right) .none kV34 dc34 pm34 an34 cd34 ct34), sl34⟩)
    (c34 : PySem.W.codeIn K cd34 "_law_right" = true)
    (k34 : PySem.W.keepIn K (.ref f34) = true)
    (a35 : PySem.W.nsIn K mainGlobals "law" = some (some (.ref f35)))
    (l35 : K.lookup f35 = some ⟨oc35, od35, .func (PySem.W.fnOf "law" "law" (defArgs s_law) (defBody s_law) (defScope s_law) .none kV35 dc35 pm35 an35 cd35 ct35), sl35⟩)
    (c35 : PySem.W.codeIn K cd35 "law" = true)
    (k35 : PySem.W.keepIn K (.ref f35) = true)
    (hn0 : PySem.W.specialIn K (.builtin "object.__class__") "__get__" = some (some (.builtin "getset_descriptor.__get__")))
    (ht0 : PySem.W.takesIn K (.builtin "object.__class__") = some true)
    (pg_Reader : PySem.W.plainGet K C_Reader Str.empty = true)
    (hd_Reader : PySem.W.hasDictIn K C_Reader = true)
    (po_Reader : PySem.W.plainOver K C_Reader = true)
    (sa_Reader : PySem.W.findIn K (.ref C_Reader) "__setattr__" = some (some (.builtin "object.__setattr__")))
    (mk_Reader : PySem.W.makesIn K C_Reader = true)
    (kc_Reader : PySem.W.keepIn K (.ref C_Reader) = true)
    (ha_Reader : PySem.W.findIn K (.ref C_Reader) "__class__" = some (some (.builtin "object.__class__")))
    (hm_Reader : PySem.W.mroIn K C_Reader (.type "object") = some true)
    (ty_Reader : PySem.W.typeIn K (.ref C_Reader) = some (.type "type"))
    (i1_Reader : PySem.W.mroIn K C_Reader (.type "NoneType") = some false)
    (i2_Reader : PySem.W.mroIn K C_Reader (.type "bool") = some false)
    (i3_Reader : PySem.W.mroIn K C_Reader (.type "int") = some false)
    (i4_Reader : PySem.W.mroIn K C_Reader (.type "str") = some false)
    (i5_Reader : PySem.W.mroIn K C_Reader (.type "tuple") = some false)
    (i6_Reader : PySem.W.mroIn K C_Reader (.type "list") = some false)
    (i7_Reader : PySem.W.mroIn K C_Reader (.type "dict") = some false)
    (i8_Reader : PySem.W.mroIn K C_Reader (.type "set") = some false)
    (n_Reader_own_by : PySem.W.findIn K (.ref C_Reader) "own_by" = some none)
    (n_Reader_own_letters : PySem.W.findIn K (.ref C_Reader) "own_letters" = some none)
    (n_Reader_own_rooms : PySem.W.findIn K (.ref C_Reader) "own_rooms" = some none)
    (n_Reader_own_ways : PySem.W.findIn K (.ref C_Reader) "own_ways" = some none)
    (z_abs : PySem.W.nsIn K mainGlobals "abs" = some none)
    (z_all : PySem.W.nsIn K mainGlobals "all" = some none)
    (z_bool : PySem.W.nsIn K mainGlobals "bool" = some none)
    (z_divmod : PySem.W.nsIn K mainGlobals "divmod" = some none)
    (z_enumerate : PySem.W.nsIn K mainGlobals "enumerate" = some none)
    (z_int : PySem.W.nsIn K mainGlobals "int" = some none)
    (z_isinstance : PySem.W.nsIn K mainGlobals "isinstance" = some none)
    (z_len : PySem.W.nsIn K mainGlobals "len" = some none)
    (z_list : PySem.W.nsIn K mainGlobals "list" = some none)
    (z_max : PySem.W.nsIn K mainGlobals "max" = some none)
    (z_range : PySem.W.nsIn K mainGlobals "range" = some none)
    (z_repr : PySem.W.nsIn K mainGlobals "repr" = some none)
    (z_set : PySem.W.nsIn K mainGlobals "set" = some none)
    (z_sorted : PySem.W.nsIn K mainGlobals "sorted" = some none)
    (z_sum : PySem.W.nsIn K mainGlobals "sum" = some none)
    (z_tuple : PySem.W.nsIn K mainGlobals "tuple" = some none)
    (y_MOST_BEGIN : PySem.W.nsIn K mainGlobals "MOST_BEGIN" = some (some (.int 40 t0_MOST_BEGIN)))
    (y_MOST_HEAD : PySem.W.nsIn K mainGlobals "MOST_HEAD" = some (some (.int 1000 t1_MOST_HEAD)))
    (y_MOST_LETTERS : PySem.W.nsIn K mainGlobals "MOST_LETTERS" = some (some (.int 4 t2_MOST_LETTERS)))
    (y_MOST_LOOP : PySem.W.nsIn K mainGlobals "MOST_LOOP" = some (some (.int 960 t3_MOST_LOOP)))
    (y_MOST_ROOMS : PySem.W.nsIn K mainGlobals "MOST_ROOMS" = some (some (.int 24 t4_MOST_ROOMS)))
    (y_MOST_WAYS : PySem.W.nsIn K mainGlobals "MOST_WAYS" = some (some (.int 400 t5_MOST_WAYS)))
    (y_WAY_PARTS : PySem.W.nsIn K mainGlobals "WAY_PARTS" = some (some (.int 4 t6_WAY_PARTS)))
    : ∃ (IW : HasW) (T : @Tx IW K mg), IW.P = P ∧ IW.w = w ∧ T.a_law = f35 := by
  have F0 := fun_mk (st := s_is_integer) l0 c0 k0
  have F1 := fun_mk (st := s_is_list) l1 c1 k1
  have F2 := fun_mk (st := s_numbers_by) l2 c2 k2
  have F3 := fun_mk (st := s_want_reader) l3 c3 k3
  have F4 := fun_mk (st := s_letter_of) l4 c4 k4
  have F5 := fun_mk (st := s_are_joined_ways) l5 c5 k5
  have F6 := fun_mk (st := s_many_slips) l6 c6 k6
  have F7 := fun_mk (st := s_law_pot) l7 c7 k7
  have F8 := fun_mk (st := s_law_draw) l8 c8 k8
  have F9 := fun_mk (st := s_law_letter) l9 c9 k9
  have F10 := fun_mk (st := s_law_is_list) l10 c10 k10
  have F11 := fun_mk (st := s_is_count) l11 c11 k11
  have F12 := fun_mk (st := s_run_slips) l12 c12 k12
  have F13 := fun_mk (st := s_law_pick) l13 c13 k13
  have F14 := fun_mk (st := s_law_reader) l14 c14 k14
  have F15 := fun_mk (st := s_law_letters) l15 c15 k15
  have F16 := fun_mk (st := s_law_is_run) l16 c16 k16
  have F17 := fun_mk (st := s_want_letters) l17 c17 k17
  have F18 := fun_mk (st := s_is_way_of) l18 c18 k18
  have F19 := fun_mk (st := s_are_letters) l19 c19 k19
  have F20 := fun_mk (st := s_is_ways_list) l20 c20 k20
  have F21 := fun_mk (st := s_law_row) l21 c21 k21
  have F22 := fun_mk (st := s_law_walk) l22 c22 k22
  have F23 := fun_mk (st := s_law_bent) l23 c23 k23
  have F24 := fun_mk (st := s_are_ways) l24 c24 k24
  have F25 := fun_mk (st := s_is_row_of) l25 c25 k25
  have F26 := fun_mk (st := s_is_told_run) l26 c26 k26
  have F27 := fun_mk (st := s_Reader___init__) l27 c27 k27
  have F28 := fun_mk (st := s_want_row) l28 c28 k28
  have F29 := fun_mk (st := s_is_run_along) l29 c29 k29
  have F30 := fun_mk (st := s_slips_of) l30 c30 k30
  have F31 := fun_mk (st := s_is_clean_along) l31 c31 k31
  have F32 := fun_mk (st := s_is_run) l32 c32 k32
  have F33 := fun_mk (st := s_is_clean_run) l33 c33 k33
  have F34 := fun_mk (st := s_law_right) l34 c34 k34
  have F35 := fun_mk (st := s_law) l35 c35 k35
  letI IW : HasW := tabW P w [("Reader", C_Reader)]
  have hF : ClsF K := tab_clsF (fun p hp => by
    rcases List.mem_cons.mp hp with rfl | hp
    · exact clf_mk ⟨pg_Reader, hd_Reader, po_Reader, sa_Reader⟩ ha_Reader hn0 ht0 hm_Reader ty_Reader i1_Reader i2_Reader i3_Reader i4_Reader i5_Reader i6_Reader i7_Reader i8_Reader
    cases hp) (fun p hp q hq ne => by
    rcases List.mem_cons.mp hp with rfl | hp
    · (
      rcases List.mem_cons.mp hq with rfl | hq
      · exact absurd rfl ne
      cases hq)
    cases hp)
  exact ⟨IW, {
    a_is_integer := f0, d_is_integer := _, F_is_integer := F0, m_is_integer := PySem.W.mg_of X G a0, B_is_integer := F0.binds (ps := ["value"]) fun _ _ _ _ _ _ us hl => match us, hl with | [_], _ => rfl
    a_is_list := f1, d_is_list := _, F_is_list := F1, m_is_list := PySem.W.mg_of X G a1, B_is_list := F1.binds (ps := ["value"]) fun _ _ _ _ _ _ us hl => match us, hl with | [_], _ => rfl
    a_numbers_by := f2, d_numbers_by := _, F_numbers_by := F2, m_numbers_by := PySem.W.mg_of X G a2, B_numbers_by := F2.binds (ps := ["ways"]) fun _ _ _ _ _ _ us hl => match us, hl with | [_], _ => rfl
    a_want_reader := f3, d_want_reader := _, F_want_reader := F3, m_want_reader := PySem.W.mg_of X G a3, B_want_reader := F3.binds (ps := ["value"]) fun _ _ _ _ _ _ us hl => match us, hl with | [_], _ => rfl
    a_letter_of := f4, d_letter_of := _, F_letter_of := F4, m_letter_of := PySem.W.mg_of X G a4, B_letter_of := F4.binds (ps := ["row", "place"]) fun _ _ _ _ _ _ us hl => match us, hl with | [_, _], _ => rfl
    a_are_joined_ways := f5, d_are_joined_ways := _, F_are_joined_ways := F5, m_are_joined_ways := PySem.W.mg_of X G a5, B_are_joined_ways := F5.binds (ps := ["reader", "ways"]) fun _ _ _ _ _ _ us hl => match us, hl with | [_, _], _ => rfl
    a_many_slips := f6, d_many_slips := _, F_many_slips := F6, m_many_slips := PySem.W.mg_of X G a6, B_many_slips := F6.binds (ps := ["reader", "ways"]) fun _ _ _ _ _ _ us hl => match us, hl with | [_, _], _ => rfl
    a_law_pot := f7, d_law_pot := _, F_law_pot := F7, m_law_pot := PySem.W.mg_of X G a7, B_law_pot := F7.binds (ps := ["script", "k"]) fun _ _ _ _ _ _ us hl => match us, hl with | [_, _], _ => rfl
    a_law_draw := f8, d_law_draw := _, F_law_draw := F8, m_law_draw := PySem.W.mg_of X G a8, B_law_draw := F8.binds (ps := ["pot", "many"]) fun _ _ _ _ _ _ us hl => match us, hl with | [_, _], _ => rfl
    a_law_letter := f9, d_law_letter := _, F_law_letter := F9, m_law_letter := PySem.W.mg_of X G a9, B_law_letter := F9.binds (ps := ["row", "place"]) fun _ _ _ _ _ _ us hl => match us, hl with | [_, _], _ => rfl
    a_law_is_list := f10, d_law_is_list := _, F_law_is_list := F10, m_law_is_list := PySem.W.mg_of X G a10, B_law_is_list := F10.binds (ps := ["value", "ways", "least", "most"]) fun _ _ _ _ _ _ us hl => match us, hl with | [_, _, _, _], _ => rfl
    a_is_count := f11, d_is_count := _, F_is_count := F11, m_is_count := PySem.W.mg_of X G a11, B_is_count := F11.binds (ps := ["value"]) fun _ _ _ _ _ _ us hl => match us, hl with | [_], _ => rfl
    a_run_slips := f12, d_run_slips := _, F_run_slips := F12, m_run_slips := PySem.W.mg_of X G a12, B_run_slips := F12.binds (ps := ["reader", "run"]) fun _ _ _ _ _ _ us hl => match us, hl with | [_, _], _ => rfl
    a_law_pick := f13, d_law_pick := _, F_law_pick := F13, m_law_pick := PySem.W.mg_of X G a13, B_law_pick := F13.binds (ps := ["pot", "some"]) fun _ _ _ _ _ _ us hl => match us, hl with | [_, _], _ => rfl
    a_law_reader := f14, d_law_reader := _, F_law_reader := F14, m_law_reader := PySem.W.mg_of X G a14, B_law_reader := F14.binds (ps := ["pot", "letters", "most"]) fun _ _ _ _ _ _ us hl => match us, hl with | [_, _, _], _ => rfl
    a_law_letters := f15, d_law_letters := _, F_law_letters := F15, m_law_letters := PySem.W.mg_of X G a15, B_law_letters := F15.binds (ps := ["pot", "letters", "many"]) fun _ _ _ _ _ _ us hl => match us, hl with | [_, _, _], _ => rfl
    a_law_is_run := f16, d_law_is_run := _, F_law_is_run := F16, m_law_is_run := PySem.W.mg_of X G a16, B_law_is_run := F16.binds (ps := ["ways", "row", "value"]) fun _ _ _ _ _ _ us hl => match us, hl with | [_, _, _], _ => rfl
    a_want_letters := f17, d_want_letters := _, F_want_letters := F17, m_want_letters := PySem.W.mg_of X G a17, B_want_letters := F17.binds (ps := ["value"]) fun _ _ _ _ _ _ us hl => match us, hl with | [_], _ => rfl
    a_is_way_of := f18, d_is_way_of := _, F_is_way_of := F18, m_is_way_of := PySem.W.mg_of X G a18, B_is_way_of := F18.binds (ps := ["letters", "rooms", "value"]) fun _ _ _ _ _ _ us hl => match us, hl with | [_, _, _], _ => rfl
    a_are_letters := f19, d_are_letters := _, F_are_letters := F19, m_are_letters := PySem.W.mg_of X G a19, B_are_letters := F19.binds (ps := ["letters", "value"]) fun _ _ _ _ _ _ us hl => match us, hl with | [_, _], _ => rfl
    a_is_ways_list := f20, d_is_ways_list := _, F_is_ways_list := F20, m_is_ways_list := PySem.W.mg_of X G a20, B_is_ways_list := F20.binds (ps := ["reader", "value", "least", "most"]) fun _ _ _ _ _ _ us hl => match us, hl with | [_, _, _, _], _ => rfl
    a_law_row := f21, d_law_row := _, F_law_row := F21, m_law_row := PySem.W.mg_of X G a21, B_law_row := F21.binds (ps := ["pot", "letters"]) fun _ _ _ _ _ _ us hl => match us, hl with | [_, _], _ => rfl
    a_law_walk := f22, d_law_walk := _, F_law_walk := F22, m_law_walk := PySem.W.mg_of X G a22, B_law_walk := F22.binds (ps := ["pot", "ways", "row"]) fun _ _ _ _ _ _ us hl => match us, hl with | [_, _, _], _ => rfl
    a_law_bent := f23, d_law_bent := _, F_law_bent := F23, m_law_bent := PySem.W.mg_of X G a23, B_law_bent := F23.binds (ps := ["pot", "told", "ways"]) fun _ _ _ _ _ _ us hl => match us, hl with | [_, _, _], _ => rfl
    a_are_ways := f24, d_are_ways := _, F_are_ways := F24, m_are_ways := PySem.W.mg_of X G a24, B_are_ways := F24.binds (ps := ["letters", "rooms", "value"]) fun _ _ _ _ _ _ us hl => match us, hl with | [_, _, _], _ => rfl
    a_is_row_of := f25, d_is_row_of := _, F_is_row_of := F25, m_is_row_of := PySem.W.mg_of X G a25, B_is_row_of := F25.binds (ps := ["letters", "value"]) fun _ _ _ _ _ _ us hl => match us, hl with | [_, _], _ => rfl
    a_is_told_run := f26, d_is_told_run := _, F_is_told_run := F26, m_is_told_run := PySem.W.mg_of X G a26, B_is_told_run := F26.binds (ps := ["reader", "value"]) fun _ _ _ _ _ _ us hl => match us, hl with | [_, _], _ => rfl
    a_Reader___init__ := f27, d_Reader___init__ := _, F_Reader___init__ := F27, B_Reader___init__ := F27.binds (ps := ["self", "letters", "rooms", "ways"]) fun _ _ _ _ _ _ us hl => match us, hl with | [_, _, _, _], _ => rfl
    a_want_row := f28, d_want_row := _, F_want_row := F28, m_want_row := PySem.W.mg_of X G a28, B_want_row := F28.binds (ps := ["letters", "value"]) fun _ _ _ _ _ _ us hl => match us, hl with | [_, _], _ => rfl
    a_is_run_along := f29, d_is_run_along := _, F_is_run_along := F29, m_is_run_along := PySem.W.mg_of X G a29, B_is_run_along := F29.binds (ps := ["reader", "row", "value"]) fun _ _ _ _ _ _ us hl => match us, hl with | [_, _, _], _ => rfl
    a_slips_of := f30, d_slips_of := _, F_slips_of := F30, m_slips_of := PySem.W.mg_of X G a30, B_slips_of := F30.binds (ps := ["reader", "run"]) fun _ _ _ _ _ _ us hl => match us, hl with | [_, _], _ => rfl
    a_is_clean_along := f31, d_is_clean_along := _, F_is_clean_along := F31, m_is_clean_along := PySem.W.mg_of X G a31, B_is_clean_along := F31.binds (ps := ["reader", "row", "value"]) fun _ _ _ _ _ _ us hl => match us, hl with | [_, _, _], _ => rfl
    a_is_run := f32, d_is_run := _, F_is_run := F32, m_is_run := PySem.W.mg_of X G a32, B_is_run := F32.binds (ps := ["reader", "row", "value"]) fun _ _ _ _ _ _ us hl => match us, hl with | [_, _, _], _ => rfl
    a_is_clean_run := f33, d_is_clean_run := _, F_is_clean_run := F33, m_is_clean_run := PySem.W.mg_of X G a33, B_is_clean_run := F33.binds (ps := ["reader", "row", "value"]) fun _ _ _ _ _ _ us hl => match us, hl with | [_, _, _], _ => rfl
    a_law_right := f34, d_law_right := _, F_law_right := F34, m_law_right := PySem.W.mg_of X G a34, B_law_right := F34.binds (ps := ["pot"]) fun _ _ _ _ _ _ us hl => match us, hl with | [_], _ => rfl
    a_law := f35, d_law := _, F_law := F35, m_law := PySem.W.mg_of X G a35, B_law := F35.binds (ps := ["script"]) fun _ _ _ _ _ _ us hl => match us, hl with | [_], _ => rfl
    C_Reader := C_Reader, c_Reader := by show List.lookup _ _ = _; simp [List.lookup]
    m_Reader := PySem.W.mg_of X G aC_Reader
    k_Reader := ⟨mk_Reader, a27, i27, kc_Reader⟩
    n_Reader_own_by := n_Reader_own_by
    n_Reader_own_letters := n_Reader_own_letters
    n_Reader_own_rooms := n_Reader_own_rooms
    n_Reader_own_ways := n_Reader_own_ways
    hF := hF
    K_slips_of_0_run_reader := kb_of F30 fun _ _ _ _ _ _ us ws h1 h2 => match us, ws, h1, h2 with | [], [_, _], _, _ => rfl
    K_is_clean_run_0_value_row_reader := kb_of F33 fun _ _ _ _ _ _ us ws h1 h2 => match us, ws, h1, h2 with | [], [_, _, _], _, _ => rfl
    K_is_run_0_value_row_reader := kb_of F32 fun _ _ _ _ _ _ us ws h1 h2 => match us, ws, h1, h2 with | [], [_, _, _], _, _ => rfl
    n_abs := PySem.W.mg_none_of X G z_abs
    n_all := PySem.W.mg_none_of X G z_all
    n_bool := PySem.W.mg_none_of X G z_bool
    n_divmod := PySem.W.mg_none_of X G z_divmod
    n_enumerate := PySem.W.mg_none_of X G z_enumerate
    n_int := PySem.W.mg_none_of X G z_int
    n_isinstance := PySem.W.mg_none_of X G z_isinstance
    n_len := PySem.W.mg_none_of X G z_len
    n_list := PySem.W.mg_none_of X G z_list
    n_max := PySem.W.mg_none_of X G z_max
    n_range := PySem.W.mg_none_of X G z_range
    n_repr := PySem.W.mg_none_of X G z_repr
    n_set := PySem.W.mg_none_of X G z_set
    n_sorted := PySem.W.mg_none_of X G z_sorted
    n_sum := PySem.W.mg_none_of X G z_sum
    n_tuple := PySem.W.mg_none_of X G z_tuple
    v_MOST_BEGIN := ⟨V.int 40, _, PySem.W.mg_of X G y_MOST_BEGIN, ⟨_, rfl⟩, kd_int⟩
    v_MOST_HEAD := ⟨V.int 1000, _, PySem.W.mg_of X G y_MOST_HEAD, ⟨_, rfl⟩, kd_int⟩
    v_MOST_LETTERS := ⟨V.int 4, _, PySem.W.mg_of X G y_MOST_LETTERS, ⟨_, rfl⟩, kd_int⟩
    v_MOST_LOOP := ⟨V.int 960, _, PySem.W.mg_of X G y_MOST_LOOP, ⟨_, rfl⟩, kd_int⟩
    v_MOST_ROOMS := ⟨V.int 24, _, PySem.W.mg_of X G y_MOST_ROOMS, ⟨_, rfl⟩, kd_int⟩
    v_MOST_WAYS := ⟨V.int 400, _, PySem.W.mg_of X G y_MOST_WAYS, ⟨_, rfl⟩, kd_int⟩
    v_WAY_PARTS := ⟨V.int 4, _, PySem.W.mg_of X G y_WAY_PARTS, ⟨_, rfl⟩, kd_int⟩
  }, rfl, rfl, rfl⟩
theorem bind_law [IW : HasW] {K : PySem.W.Frag} {mg : Str → Option Value} (T : Tx K mg) (s : Shared) (v : Value) : BindsTo s T.d_law ⟨[v], []⟩ [("script", v)] := by
  obtain ⟨oc, od, kV, doc, pm, an, cdv, ct, osl, e, _, _⟩ := T.F_law.ex
  rw [e]
  exact .of_eq rfl
theorem fin_mk {P : Program} {w : World} {K : PySem.W.Frag} {mg : Str → Option Value} {fa : Addr} (h : ∃ (IW : HasW) (T : @Tx IW K mg), IW.P = P ∧ IW.w = w ∧ T.a_law = fa) :
    ∃ (IW : HasW) (fd : FuncData), (∀ (s : Shared) (u : Value), BindsTo s fd ⟨[u], []⟩ [("script", u)]) ∧ ∀ base : Heap, K.In base → base.Ns mainGlobals mg → FnG P w K mg base 9 fa fd ["script"] (@spD IW K 1 g_law) := by
  obtain ⟨IW, T, rfl, rfl, rfl⟩ := h
  exact ⟨IW, T.d_law, bind_law T, fun base _ _ => ok_law T⟩
end K31
namespace K31
open PySem PySem.Spec PyProof.Rows L2 DD
variable [IW : HasW]
/-! ## the standings -/
abbrev Wy := Int × Int × Int × Int
abbrev Sd := List Int × List Int
def wI (w : Wy) : List Int := [w.1, w.2.1, w.2.2.1, w.2.2.2]
def dW (w : Wy) : Dv := tI (wI w)
def dS (s : Sd) : Dv := .tup [tI s.1, tI s.2]
structure Ws (R L : Nat) (us : List Wy) : Prop where
  rng : ∀ w ∈ us, (0 ≤ w.1 ∧ w.1 < (R : Int)) ∧ (0 ≤ w.2.1 ∧ w.2.1 < (L : Int)) ∧ (0 ≤ w.2.2.1 ∧ w.2.2.1 < (R : Int)) ∧ (0 ≤ w.2.2.2 ∧ w.2.2.2 < 2)
  all : ∀ r l : Int, 0 ≤ r → r < R → 0 ≤ l → l < L → ∃ w ∈ us, w.1 = r ∧ w.2.1 = l
  nd : us.Nodup
  few : us.length < 64
  R1 : 1 ≤ R
  R5 : R ≤ 5
  L1 : 1 ≤ L
  L4 : L ≤ 4
def Wd (L : Nat) (w : List Int) : Prop := ∀ l ∈ w, 0 ≤ l ∧ l < (L : Int)
theorem srt_asc (xs : List Int) : (srtI (ddp xs)).Pairwise (· < ·) := srtI_lt (ddp_nd xs)
theorem srt_mem (xs : List Int) (k : Int) : k ∈ srtI (ddp xs) ↔ k ∈ xs := by rw [(srtI_perm _).mem_iff, ddp_mem]
theorem srt_eq {xs ys : List Int} (h : ∀ k, k ∈ xs ↔ k ∈ ys) : srtI (ddp xs) = srtI (ddp ys) :=
  asc_eq (f := fun x : Int => x) (srt_asc xs) (srt_asc ys) fun k => by rw [srt_mem, srt_mem, h k]
theorem srt_nd {xs ys : List Int} (nd : xs.Nodup) (h : ∀ k, k ∈ xs ↔ k ∈ ys) : srtI xs = srtI (ddp ys) :=
  asc_eq (f := fun x : Int => x) (srtI_lt nd) (srt_asc ys) fun k => by rw [srt_mem, (srtI_perm xs).mem_iff, h k]
theorem srt_nil (xs : List Int) : srtI (ddp xs) = [] ↔ xs = [] := by
  constructor
  · intro h
    cases xs with
    | nil => rfl
    | cons x xs =>
      have : x ∈ srtI (ddp (x :: xs)) := (srt_mem _ _).mpr List.mem_cons_self
      rw [h] at this; cases this
  · intro h; subst h; simp [srtI, ddp]
/-! ## few standings -/
/-! ## keys -/
def kN (ns : List Int) : NestedKey := .tup (ns.map .num)
def kS (s : Sd) : NestedKey := .tup [kN s.1, kN s.2]
theorem nks_int : ∀ ns : List Int, nks (ns.map .int) = some (ns.map .num)
  | [] => rfl
  | i :: ns => by
    rw [List.map_cons, nks, nks_int ns]; rfl
theorem nk_tI (ns : List Int) : nk (tI ns) = some (kN ns) := by
  show (nks (ns.map .int)).map NestedKey.tup = _
  rw [nks_int]; rfl
theorem nk_dS (s : Sd) : nk (dS s) = some (kS s) := by
  show (nks [tI s.1, tI s.2]).map NestedKey.tup = _
  have : nks [tI s.1, tI s.2] = some [kN s.1, kN s.2] := by
    unfold nks nks nks
    rw [nk_tI, nk_tI]
  rw [this]; rfl
theorem dep_nums : ∀ ns : List Int, NestedKey.depthAll (ns.map .num) = 0
  | [] => rfl
  | i :: ns => by rw [List.map_cons, NestedKey.depthAll, dep_nums ns]; rfl
theorem dep_kN (ns : List Int) : (kN ns).depth = 1 := by
  unfold kN
  rw [NestedKey.depth, dep_nums]
theorem dep_kS (s : Sd) : (kS s).depth = 2 := by
  unfold kS
  rw [NestedKey.depth, NestedKey.depthAll, NestedKey.depthAll, NestedKey.depthAll, dep_kN, dep_kN]; rfl
theorem tky_of {ws : List Dv} {k : NestedKey} (h : nk (.tup ws) = some k) (h8 : k.depth ≤ 8) : tky (.tup ws) = some k := by
  show (match nk (.tup ws) with | some k => if k.depth ≤ 8 then some k else none | none => none) = _
  rw [h]
  show (if k.depth ≤ 8 then some k else none) = _
  rw [if_pos h8]
theorem tky_dS (s : Sd) : tky (dS s) = some (kS s) := tky_of (nk_dS s) (by rw [dep_kS]; decide)
theorem tky_tI (ns : List Int) : tky (tI ns) = some (kN ns) := tky_of (nk_tI ns) (by rw [dep_kN]; decide)
theorem kN_inj {a b : List Int} (h : kN a = kN b) : a = b := by
  have h := NestedKey.tup.inj h
  exact (List.map_inj_right (fun _ _ e => NestedKey.num.inj e)).mp h
theorem kS_inj {s t : Sd} (h : kS s = kS t) : s = t := by
  have h := NestedKey.tup.inj h
  have h1 := List.cons.inj h
  have h2 := List.cons.inj h1.2
  exact Prod.ext (kN_inj h1.1) (kN_inj h2.1)
theorem nks_map {α : Type} (f : α → Dv) (k : α → NestedKey) (h : ∀ a, nk (f a) = some (k a)) : ∀ xs : List α, nks (xs.map f) = some (xs.map k)
  | [] => rfl
  | x :: xs => by
    rw [List.map_cons, nks, h x, nks_map f k h xs]; rfl
theorem find_zip {α : Type} [BEq α] [LawfulBEq α] (k : α → NestedKey) (inj : ∀ a b, k a = k b → a = b) (v : α → Dv) (a : α) : ∀ xs : List α, (((xs.map k).zip (xs.map v)).find? fun p => decide (p.1 = k a)).map (·.2) = if a ∈ xs then some (v a) else none
  | [] => rfl
  | x :: xs => by
    rw [List.map_cons, List.map_cons, List.zip_cons_cons, List.find?_cons]
    by_cases e : x = a
    · subst e
      rw [show decide ((k x, v x).1 = k x) = true from decide_eq_true rfl, if_pos List.mem_cons_self]; rfl
    · rw [show decide ((k x, v x).1 = k a) = false from decide_eq_false fun z => e (inj _ _ z)]
      show (((xs.map k).zip (xs.map v)).find? fun p => decide (p.1 = k a)).map (·.2) = _
      rw [find_zip k inj v a xs]
      by_cases m : a ∈ xs
      · rw [if_pos m, if_pos (List.mem_cons_of_mem _ m)]
      · rw [if_neg m, if_neg fun z => (List.mem_cons.mp z).elim (fun q => e q.symm) m]
theorem valD_map {α : Type} [BEq α] [LawfulBEq α] (f : α → Dv) (k : α → NestedKey) (h : ∀ a, nk (f a) = some (k a)) (inj : ∀ a b, k a = k b → a = b) (v : α → Dv) (xs : List α) (a : α) : valD (xs.map f) (xs.map v) (k a) = if a ∈ xs then some (v a) else none := by
  unfold valD
  rw [nks_map f k h]
  exact find_zip k inj v a xs
end K31
namespace DD
open PySem PySem.Spec PyProof.Rows L2
variable [IW : HasW]
/-! ## the wider forms -/
@[simp] theorem lenA_tup (ws : List Dv) : lenA [.tup ws] = M.ret (.int ws.length) := Eq.trans rfl rfl
@[simp] theorem lenA_lst (ws : List Dv) : lenA [.lst ws] = M.ret (.int ws.length) := Eq.trans rfl rfl
@[simp] theorem lenA_kls (ws : List Dv) : lenA [.kls ws] = M.ret (.int ws.length) := Eq.trans rfl rfl
@[simp] theorem lenA_sti (ns : List Int) : lenA [.sti ns] = M.ret (.int ns.length) := Eq.trans rfl rfl
@[simp] theorem lenA_stt (ns : List (List Int)) : lenA [.stt ns] = M.ret (.int ns.length) := Eq.trans rfl rfl
theorem lenA_ref {S : Sto} {n : Nat} {us : List Dv} (h : S[n]? = some (.lst us)) : lenA [.ref n] S = some (.int us.length, S) := len_ref h
@[simp] theorem ixA_tup (ws : List Dv) (i : Int) : ixA (.tup ws) (.int i) = optM (atI ws i) := by rw [← ixD_tup]; funext S; rfl
@[simp] theorem ixA_lst (ws : List Dv) (i : Int) : ixA (.lst ws) (.int i) = optM (atI ws i) := by rw [← ixD_lst]; funext S; rfl
@[simp] theorem ixA_kls (ws : List Dv) (i : Int) : ixA (.kls ws) (.int i) = optM (atI ws i) := by rw [← ixD_kls]; funext S; rfl
theorem ixA_ref {S : Sto} {n : Nat} {us : List Dv} (h : S[n]? = some (.lst us)) (y : Dv) : ixA (.ref n) y S = ixD (.ref n) y S := by
  have e : dcV S (.ref n) = none := by
    show (match S[n]? with | some (.dct ks vs) => some (ks, vs) | _ => none) = none
    rw [h]
  unfold ixA
  rw [e]
theorem ixA_dct {ks vs : List Dv} {y w : Dv} {k : NestedKey} (hk : tky y = some k) (hv : valD ks vs k = some w) : ixA (.dct ks vs) y = M.ret w := by
  funext S
  show (match tky y with | some k => (match valD ks vs k with | some w => some (w, S) | none => none) | none => none) = _
  rw [hk]
  show (match valD ks vs k with | some w => some (w, S) | none => none) = _
  rw [hv]; rfl
theorem dcV_ref {S : Sto} {n : Nat} {ks vs : List Dv} (h : S[n]? = some (.dct ks vs)) : dcV S (.ref n) = some (ks, vs) := by
  show (match S[n]? with | some (.dct ks vs) => some (ks, vs) | _ => none) = _
  rw [h]
theorem dcV_lst {S : Sto} {n : Nat} {us : List Dv} (h : S[n]? = some (.lst us)) : dcV S (.ref n) = none := by
  show (match S[n]? with | some (.dct ks vs) => some (ks, vs) | _ => none) = _
  rw [h]
theorem ixA_dref {S : Sto} {n : Nat} {ks vs : List Dv} {y w : Dv} {k : NestedKey} (h : S[n]? = some (.dct ks vs)) (hk : tky y = some k) (hv : valD ks vs k = some w) : ixA (.ref n) y S = some (w, S) := by
  unfold ixA
  rw [dcV_ref h]
  show (match tky y with | some k => (match valD ks vs k with | some w => some (w, S) | none => none) | none => none) = _
  rw [hk]
  show (match valD ks vs k with | some w => some (w, S) | none => none) = _
  rw [hv]
theorem notInA_dref {S : Sto} {n : Nat} {ks vs : List Dv} {x : Dv} {k : NestedKey} (h : S[n]? = some (.dct ks vs)) (hk : tky x = some k) : notInA x (.ref n) S = some (.bl (!(valD ks vs k).isSome), S) := by
  unfold notInA
  rw [dcV_ref h]
  show notInK x (.ref n) S = _
  unfold notInK
  rw [dcV_ref h]
  show (match tky x with | some k => some (Dv.bl (!(valD ks vs k).isSome), S) | none => none) = _
  rw [hk]
theorem putA_new {S : Sto} {n : Nat} {ks vs : List Dv} {js : List NestedKey} {i w : Dv} {k : NestedKey} (h : S[n]? = some (.dct ks vs)) (hj : nks ks = some js) (hk : tky i = some k) (hl : ks.length < 1000000) (hv : valD ks vs k = none) : putA (.ref n) i w S = some ((), S.set n (.dct (ks ++ [i]) (vs ++ [w]))) := by
  show (match S[n]? with | some (.dct _ _) => putK n i w S | _ => putG (.ref n) i w S) = _
  rw [h]
  show putK n i w S = _
  unfold putK
  rw [h]
  show (match tky i, nks ks with | some k, some js => if ks.length < sizeLine then (if (valD ks vs k).isSome = true then some ((), S.set n (.dct ks (putV js k w vs))) else some ((), S.set n (.dct (ks ++ [i]) (vs ++ [w])))) else none | _, _ => none) = _
  rw [hk, hj]
  show (if ks.length < sizeLine then (if (valD ks vs k).isSome = true then some ((), S.set n (.dct ks (putV js k w vs))) else some ((), S.set n (.dct (ks ++ [i]) (vs ++ [w])))) else none) = _
  rw [if_pos (Nat.lt_of_lt_of_le hl (line_ge (Nat.le_refl _))), hv]
  rfl
theorem putA_old {S : Sto} {n : Nat} {ks vs : List Dv} {js : List NestedKey} {i w x : Dv} {k : NestedKey} (h : S[n]? = some (.dct ks vs)) (hj : nks ks = some js) (hk : tky i = some k) (hl : ks.length < 1000000) (hv : valD ks vs k = some x) : putA (.ref n) i w S = some ((), S.set n (.dct ks (putV js k w vs))) := by
  show (match S[n]? with | some (.dct _ _) => putK n i w S | _ => putG (.ref n) i w S) = _
  rw [h]
  show putK n i w S = _
  unfold putK
  rw [h]
  show (match tky i, nks ks with | some k, some js => if ks.length < sizeLine then (if (valD ks vs k).isSome = true then some ((), S.set n (.dct ks (putV js k w vs))) else some ((), S.set n (.dct (ks ++ [i]) (vs ++ [w])))) else none | _, _ => none) = _
  rw [hk, hj]
  show (if ks.length < sizeLine then (if (valD ks vs k).isSome = true then some ((), S.set n (.dct ks (putV js k w vs))) else some ((), S.set n (.dct (ks ++ [i]) (vs ++ [w])))) else none) = _
  rw [if_pos (Nat.lt_of_lt_of_le hl (line_ge (Nat.le_refl _))), hv]
  rfl
theorem putA_lst {S : Sto} {n : Nat} {us : List Dv} (h : S[n]? = some (.lst us)) (i w : Dv) : putA (.ref n) i w S = putG (.ref n) i w S := by
  show (match S[n]? with | some (.dct _ _) => putK n i w S | _ => putG (.ref n) i w S) = _
  rw [h]
/-! in, over plain data -/
theorem inS_at {x y p : Dv} {S : Sto} {b : Bool} (hx : x.pu = true) (hy : res S y = some p) (hd : (py x).depth ≤ 60) (hb : isIn (py x) (py p) = some b) : inS x y S = some (.bl b, S) := by
  unfold inS
  rw [res_pu hx, hy]
  show (if (py x).depth ≤ 60 then (match isIn (py x) (py p) with | some b => some (Dv.bl b, S) | none => none) else none) = _
  rw [if_pos hd, hb]
theorem notInS_at {x y p : Dv} {S : Sto} {b : Bool} (hx : x.pu = true) (hy : res S y = some p) (hd : (py x).depth ≤ 60) (hb : isIn (py x) (py p) = some b) : notInS x y S = some (.bl (!b), S) := by
  unfold notInS
  rw [res_pu hx, hy]
  show (if (py x).depth ≤ 60 then (match isIn (py x) (py p) with | some b => some (Dv.bl (!b), S) | none => none) else none) = _
  rw [if_pos hd, hb]
theorem any_ints (k : Int) : ∀ ns : List Int, ((pys (ns.map .int)).any fun e => PyData.eqv e (.int k)) = decide (k ∈ ns)
  | [] => by simp [pys]
  | i :: ns => by
    rw [List.map_cons, pys, List.any_cons, any_ints k ns]
    show (PyData.eqv (.int i) (.int k) || _) = _
    rw [PyData.eqv]
    by_cases h : i = k
    · subst h; simp
    · have h2 : ¬ k = i := fun z => h z.symm
      simp [h, h2]
theorem pus_ints : ∀ ns : List Int, Dv.pus (ns.map .int) = true
  | [] => rfl
  | i :: ns => by simp [Dv.pus, Dv.pu, pus_ints ns]
theorem pu_tI (ns : List Int) : (tI ns).pu = true := pus_ints ns
@[simp] theorem inA_ints (k : Int) (ns : List Int) : inA (.int k) (tI ns) = M.ret (.bl (decide (k ∈ ns))) := by
  funext S
  show inS (.int k) (tI ns) S = _
  rw [inS_at (x := .int k) (y := tI ns) (p := tI ns) (b := decide (k ∈ ns)) rfl (res_pu (pu_tI ns)) (by simp [py, PyData.depth]) (show isIn (.int k) (.tuple (pys (ns.map .int))) = some (decide (k ∈ ns)) by rw [isIn, any_ints])]
  rfl
theorem notInA_intsL {S : Sto} {n : Nat} {ns : List Int} (h : S[n]? = some (.lst (ns.map .int))) (k : Int) : notInA (.int k) (.ref n) S = some (.bl (!decide (k ∈ ns)), S) := by
  unfold notInA
  rw [dcV_lst h]
  exact notInS_at (x := .int k) (p := .lst (ns.map .int)) (b := decide (k ∈ ns)) rfl (res_ref h (pus_ints ns)) (by simp [py, PyData.depth]) (show isIn (.int k) (.list (pys (ns.map .int))) = some (decide (k ∈ ns)) by rw [isIn, any_ints])
/-! sets -/
theorem setD_ints (ns : List Int) (h : ns.length < 64) : setD [.lst (ns.map .int)] = M.ret (.sti (ddp ns)) := by
  funext S
  show (if (ns.map Dv.int).length < 64 then (match intsOf (ns.map .int) with | some ns => some (Dv.sti (ddp ns), S) | none => (match tupsOf (ns.map .int) with | some nss => some (.stt (ddp nss), S) | none => none)) else none) = _
  rw [if_pos (by rw [List.length_map]; exact h), intsOf_map]
  rfl
theorem intsOf_tups {nss : List (List Int)} (h : nss ≠ []) : intsOf (nss.map tI) = none := by
  cases nss with
  | nil => exact absurd rfl h
  | cons a b => rfl
theorem setD_tups (nss : List (List Int)) (h : nss.length < 64) (hne : nss ≠ []) : setD [.lst (nss.map tI)] = M.ret (.stt (ddp nss)) := by
  funext S
  show (if (nss.map tI).length < 64 then (match intsOf (nss.map tI) with | some ns => some (Dv.sti (ddp ns), S) | none => (match tupsOf (nss.map tI) with | some nss => some (.stt (ddp nss), S) | none => none)) else none) = _
  rw [if_pos (by rw [List.length_map]; exact h), intsOf_tups hne, tupsOf_map]
  rfl
theorem setD_ref {S : Sto} {n : Nat} {nss : List (List Int)} (hs : S[n]? = some (.lst (nss.map tI))) (h : nss.length < 64) (hne : nss ≠ []) : setD [.ref n] S = some (.stt (ddp nss), S) := by
  show (match lsV S (.ref n) with | some us => if us.length < 64 then (match intsOf us with | some ns => some (Dv.sti (ddp ns), S) | none => (match tupsOf us with | some nss => some (.stt (ddp nss), S) | none => none)) else none | none => none) = _
  rw [ls_ref hs]
  show (if (nss.map tI).length < 64 then (match intsOf (nss.map tI) with | some ns => some (Dv.sti (ddp ns), S) | none => (match tupsOf (nss.map tI) with | some nss => some (.stt (ddp nss), S) | none => none)) else none) = _
  rw [if_pos (by rw [List.length_map]; exact h), intsOf_tups hne, tupsOf_map]
@[simp] theorem sortedA_sti (ns : List Int) : sortedA [.sti ns] = M.ret (.lst ((srtI ns).map .int)) := Eq.trans rfl rfl
theorem sortedA_stt (nss : List (List Int)) (h : srtOk nss) : sortedA [.stt nss] = M.ret (.lst ((srtT nss).map tI)) := by
  funext S
  show (if srtOk nss then some (Dv.lst ((srtT nss).map tI), S) else none) = _
  rw [if_pos h]; rfl
theorem sortedA_ints {S : Sto} {n : Nat} {ns : List Int} (hs : S[n]? = some (.lst (ns.map .int))) : sortedA [.ref n] S = some (.lst ((srtI ns).map .int), S) := by
  show (match (lsV S (.ref n)).bind intsOf with | some ns => some (Dv.lst ((srtI ns).map .int), S) | none => sortedD [.ref n] S) = _
  rw [ls_ref hs]
  show (match intsOf (ns.map .int) with | some ns => some (Dv.lst ((srtI ns).map .int), S) | none => sortedD [.ref n] S) = _
  rw [intsOf_map]
@[simp] theorem tupleD_ints (ns : List Int) : tupleD [.lst (ns.map .int)] = M.ret (tI ns) := Eq.trans rfl rfl
/-! isinstance -/
theorem isiA_ty {w : Dv} {a b : String} {r : Bool} (h : ∀ S, tyA S w = some (.inl a)) (k : kitB a b = some r) : isiA [w, .ty b] = M.ret (.bl r) := by
  funext S
  show (match tyA S w with | some (.inl a) => (match kitB a b with | some r => some (Dv.bl r, S) | none => none) | some (.inr _) => if b ∈ tyNames then some (.bl false, S) else none | none => none) = _
  rw [h S]
  show (match kitB a b with | some r => some (Dv.bl r, S) | none => none) = _
  rw [k]; rfl
@[simp] theorem iA_ii (i : Int) : isiA [.int i, .ty "int"] = M.ret (.bl true) := isiA_ty (fun _ => rfl) (by decide +kernel)
@[simp] theorem iA_ib (i : Int) : isiA [.int i, .ty "bool"] = M.ret (.bl false) := isiA_ty (fun _ => rfl) (by decide +kernel)
@[simp] theorem iA_it (i : Int) : isiA [.int i, .ty "tuple"] = M.ret (.bl false) := isiA_ty (fun _ => rfl) (by decide +kernel)
@[simp] theorem iA_bi (i : Bool) : isiA [.bl i, .ty "int"] = M.ret (.bl true) := isiA_ty (fun _ => rfl) (by decide +kernel)
@[simp] theorem iA_bb (i : Bool) : isiA [.bl i, .ty "bool"] = M.ret (.bl true) := isiA_ty (fun _ => rfl) (by decide +kernel)
@[simp] theorem iA_bt (i : Bool) : isiA [.bl i, .ty "tuple"] = M.ret (.bl false) := isiA_ty (fun _ => rfl) (by decide +kernel)
@[simp] theorem iA_ni : isiA [.non, .ty "int"] = M.ret (.bl false) := isiA_ty (fun _ => rfl) (by decide +kernel)
@[simp] theorem iA_nb : isiA [.non, .ty "bool"] = M.ret (.bl false) := isiA_ty (fun _ => rfl) (by decide +kernel)
@[simp] theorem iA_nt : isiA [.non, .ty "tuple"] = M.ret (.bl false) := isiA_ty (fun _ => rfl) (by decide +kernel)
@[simp] theorem iA_si (x : Str) : isiA [.str x, .ty "int"] = M.ret (.bl false) := isiA_ty (fun _ => rfl) (by decide +kernel)
@[simp] theorem iA_sb (x : Str) : isiA [.str x, .ty "bool"] = M.ret (.bl false) := isiA_ty (fun _ => rfl) (by decide +kernel)
@[simp] theorem iA_st (x : Str) : isiA [.str x, .ty "tuple"] = M.ret (.bl false) := isiA_ty (fun _ => rfl) (by decide +kernel)
@[simp] theorem iA_tt (ws : List Dv) : isiA [.tup ws, .ty "tuple"] = M.ret (.bl true) := isiA_ty (fun _ => rfl) (by decide +kernel)
@[simp] theorem iA_lt (ws : List Dv) : isiA [.lst ws, .ty "tuple"] = M.ret (.bl false) := isiA_ty (fun _ => rfl) (by decide +kernel)
@[simp] theorem iA_dt (ks vs : List Dv) : isiA [.dct ks vs, .ty "tuple"] = M.ret (.bl false) := isiA_ty (fun _ => rfl) (by decide +kernel)
@[simp] theorem iA_llt (ws : List Dv) : isiA [.lst ws, .tup [.ty "list", .ty "tuple"]] = M.ret (.bl true) := by
  funext S
  show (if allTy [.ty "list", .ty "tuple"] = true then (match kitAnyB "list" [.ty "list", .ty "tuple"] with | some r => some (Dv.bl r, S) | none => none) else none) = _
  rw [if_pos (show allTy [.ty "list", .ty "tuple"] = true from rfl), any_list_lt]; rfl
/-! steps -/
theorem seqS {m : M Dv} {i : Nat} {env : En} {k : En → M Fl} {w : Dv} (h : m = M.ret w) : seqD (setS i m env) k = k (env.set i (some w)) := by rw [h]; rfl
theorem seqP {m : M (List Dv)} {i j : Nat} {env : En} {k : En → M Fl} {v w : Dv} (h : m = M.ret [v, w]) : seqD (parS i j m env) k = k ((env.set i (some v)).set j (some w)) := by rw [h]; rfl
end DD
namespace K31
open PySem PySem.Spec PyProof.Rows L2 DD
variable [IW : HasW]
theorem dW_eq (w : Wy) : dW w = .tup [.int w.1, .int w.2.1, .int w.2.2.1, .int w.2.2.2] := rfl
@[simp] theorem dS_0 (s : Sd) : ixA (dS s) (.int 0) = M.ret (tI s.1) := by
  unfold dS
  rw [ixA_tup, atI_00]; rfl
@[simp] theorem dS_1 (s : Sd) : ixA (dS s) (.int 1) = M.ret (tI s.2) := by
  unfold dS
  rw [ixA_tup, atI_1]; rfl
theorem pu_dS (s : Sd) : (dS s).pu = true := by
  show Dv.pus [tI s.1, tI s.2] = true
  simp [Dv.pus, pu_tI]
theorem pu_z (s : Sd) (w : Dv) (h : w.pu = true) : (Dv.tup [dS s, w]).pu = true := by
  show Dv.pus [dS s, w] = true
  simp [Dv.pus, pu_dS, h]
theorem eq_nil (ns : List Int) : eqD (.lst (ns.map .int)) (.lst []) = M.ret (.bl (decide (ns = []))) := by
  have sh : ∀ ms : List Int, SeqAt.shaped (py (.lst (ms.map .int))) = true := fun ms => by
    have h := sm_lst (d := 0) (n := 0) (ws := []) (fun w hw => nomatch hw)
    show (PyData.canLay0 (.list (pys (ms.map .int))) && decide (PyData.depth (.list (pys (ms.map .int))) ≤ 64)) = true
    have c : PyData.canLayAll0 (pys (ms.map .int)) = true ∧ PyData.depthAll (pys (ms.map .int)) = 0 := by
      induction ms with
      | nil => simp [pys, PyData.canLayAll0, PyData.depthAll]
      | cons a b ih => simp [pys, py, PyData.canLayAll0, PyData.canLay0, PyData.depthAll, PyData.depth, ih.1, ih.2]
    simp [PyData.canLay0, PyData.depth, c.1, c.2]
  rw [eqD_pu (x := .lst (ns.map .int)) (y := .lst []) rfl (pus_ints ns) rfl (sh ns) (sh [])]
  have e := eqv_ints ns []
  show M.ret (Dv.bl (PyData.eqv (.list (pys (ns.map .int))) (.list (pys (([] : List Int).map .int))))) = _
  rw [PyData.eqv, e]
end K31
namespace K31
open PySem PySem.Spec PyProof.Rows L2 DD
variable [IW : HasW]
theorem ifS_of {t : M Bool} {m n : M Fl} {S S' : Sto} {b : Bool} (h : t S = some (b, S')) : ifS t m n S = (if b = true then m else n) S' := by
  unfold ifS; rw [M.bind_of h]
theorem asg_of {g : Dv → En → M En} {m : M Dv} {env e' : En} {S S1 S2 : Sto} {w : Dv} (h : m S = some (w, S1)) (h2 : g w env S1 = some (e', S2)) : asgS g m env S = some (.nx e', S2) := by
  unfold asgS; rw [M.bind_of h, M.bind_of h2]; rfl
theorem set_again {S : Sto} {n : Nat} {o p : MO} : (S.set n o).set n p = S.set n p := List.set_set ..
theorem set_own {S : Sto} {n : Nat} {o : MO} (h : S[n]? = some o) : S.set n o = S := by
  obtain ⟨hl, e⟩ := List.getElem?_eq_some_iff.mp h
  rw [← e]
  exact List.set_getElem_self hl
theorem keep_set {S : Sto} {n : Nat} {o : MO} (h : o.lt S.length = true) : KeepOk S (S.set n o) := by
  intro k ws hk hw
  by_cases e : k = n
  · subst e
    rw [List.getElem?_set_self hk] at hw
    cases hw
    exact .inr h
  · rw [List.getElem?_set_ne (Ne.symm e)] at hw
    exact .inl hw
theorem fnM_set {N : Nat} {m : En → M Fl} {ws : List Dv} {S : Sto} {n : Nat} {o : MO} {w : Dv} (h : m (startE N ws) S = some (.rt w, S.set n o)) (hp : w.pu = true) (hk : o.lt S.length = true) : fnM N m ws S = some (w, S.set n o) := by
  have := fnM_of h (outW_pu hp) (keep_set hk)
  rw [this, show S.length = (S.set n o).length by rw [List.length_set], take_len]
end K31
namespace DD
open PySem PySem.Spec PyProof.Rows L2
variable [IW : HasW]
theorem sm_str {n : Nat} {x : Str} (h : PyData.strOk x = true) (hl : x.cps.size ≤ n) : Sm 0 n (.str x) :=
  ⟨rfl, by simp [py, PyData.showable], by simpa [py, PyData.canLay0] using h, by simp [py, PyData.intsShort], by simp [py, PyData.depth], by simpa [py, PyData.weight] using hl⟩
theorem Rn.consE {n : Nat} {m : M Dv} {k : M (List Dv)} {w : Dv} {ws : List Dv} (h : Rn n m fun v => v = w) (q : Rn n k fun us => us = ws) : Rn n (consA m k) fun us => us = w :: ws :=
  Rn.cons h q fun _ _ h1 h2 => by rw [h1, h2]
theorem Rn.new {n : Nat} : Rn n (M.bind newT fzD) fun v => v = Dv.dct [] [] := by
  intro S hS
  have e : (S ++ [MO.dct [] []])[S.length]? = some (.dct [] []) := by simp
  refine ⟨Dv.dct [] [], (S ++ [MO.dct [] []]).set S.length .gone, ?_, rfl, ?_, ?_⟩
  · show M.bind newT fzD S = _
    rw [M.bind_of (show newT S = some (.ref S.length, S ++ [.dct [] []]) from rfl)]
    exact fz_refO e rfl
  · obtain ⟨a, b, h, r⟩ := hS
    have hn := (List.getElem?_eq_some_iff.mp h).1
    exact ⟨a, b, by rw [List.getElem?_set_ne (by omega), List.getElem?_append_left hn]; exact h, r⟩
  · exact ⟨by rw [List.length_set]; simp, fun k hk hn => by rw [List.getElem?_set_ne (by omega), List.getElem?_append_left hk]⟩
theorem strD_small {i : Int} (h : i.natAbs.log2 < 1920) : strD [.int i] = M.ret (.str (toString i)) := by
  funext S
  show (if i.natAbs.log2 < 1920 then some (Dv.str (toString i), S) else none) = _
  rw [if_pos h]; rfl
theorem reprA_sm {d n : Nat} {w : Dv} (h : Sm d n w) (hd : d ≤ 60) (hn : n ≤ 1048576) : reprA [w] = M.ret (.str (py w).shown) := by
  have e : reprA [w] = reprD [w] := by
    funext S
    cases w with
    | dct ks vs => exact absurd h.pu (by simp [Dv.pu])
    | _ => rfl
  rw [e, reprD_sm h hd hn]
theorem Rn.fnL {n N : Nat} {m : En → M Fl} {ws : List Dv} {P : Dv → Prop} (h : Rn n (m (startE N ws)) fun f => ∃ w, f = .rt w ∧ (∀ k, w.lt k = true) ∧ P w) : Rn n (fnM N m ws) P := by
  intro S hS
  obtain ⟨f, S', h1, ⟨w, rfl, hp, hw⟩, h3, h4⟩ := h S hS
  have hl := hS.lt
  have h3' := h3
  obtain ⟨a, b, e, h0, hb⟩ := h3
  have hk : KeepOk S S' := by
    intro j us hj hu
    by_cases c : j = n
    · subst c
      rw [e] at hu
      cases hu
      exact .inr rfl
    · rw [h4.same j hj c] at hu
      exact .inl hu
  refine ⟨w, S'.take S.length, fnM_of h1 (by unfold outW; rw [if_pos (hp _)]) hk, hw, ⟨a, b, ?_, h0, hb⟩, ?_, ?_⟩
  · rw [List.getElem?_take, if_pos hl]; exact e
  · rw [List.length_take]; have := h4.le; omega
  · intro k hk' hn
    rw [List.getElem?_take, if_pos hk']
    exact h4.same k hk' hn
theorem reprA_dct : reprA [.dct [] []] = M.ret (.str "{}") := Eq.trans rfl rfl
end DD
namespace K31
open PySem PySem.Spec PyProof.Rows L2 DD
variable [IW : HasW]
end K31
namespace DD
open PySem PySem.Spec PyProof.Rows L2
variable [IW : HasW]
theorem forD_foldS {α σ : Type} {m : M Sr} {g : Dv → En → M En} {b : En → M Fl} {env : En} {S S0 : Sto} (xs : List α) (f : α → Dv) (up : σ → α → σ) (E : σ → En → Sto → Prop) (z : σ) (hm : m S = some (⟨xs.map f, none⟩, S0)) (hI : E z env S0)
    (hb : ∀ x ∈ xs, ∀ z e S, E z e S → ∃ e' S', E (up z x) e' S' ∧ M.bind (g (f x) e) b S = some (.nx e', S')) : ∃ e' S', E (xs.foldl up z) e' S' ∧ forD m g b env S = some (.nx e', S') := by
  unfold forD
  rw [M.bind_of hm]
  exact forM_fold (s := ⟨xs.map f, none⟩) rfl f up E xs z env S0 hI hb
theorem zip_range {α : Type} (xs : List α) (i : Nat) : ((List.range xs.length).zip xs)[i]? = (xs[i]?).map fun x => (i, x) := by
  unfold List.zip
  rw [List.getElem?_zipWith]
  by_cases h : i < xs.length
  · rw [List.getElem?_range h, List.getElem?_eq_getElem h]; rfl
  · rw [List.getElem?_eq_none (l := xs) (by omega)]
    cases (List.range xs.length)[i]? <;> rfl
theorem enmW_map {α : Type} (f : α → Dv) (xs : List α) : enmW (xs.map f) = ((List.range xs.length).zip xs).map fun p => Dv.tup [.int (p.1 : Nat), f p.2] := by
  unfold enmW
  rw [List.length_map]
  refine List.ext_getElem? fun i => ?_
  rw [List.getElem?_zipWith, List.getElem?_map, List.getElem?_map, zip_range]
  by_cases h : i < xs.length
  · rw [List.getElem?_range h, List.getElem?_eq_getElem h]; rfl
  · rw [List.getElem?_eq_none (l := xs) (by omega)]
    cases (List.range xs.length)[i]? <;> rfl
end DD
namespace K31
open PySem PySem.Spec PyProof.Rows L2 DD
variable [IW : HasW]
/-! ## the numbers of the ways by room and letter -/
def key (w : Wy) : Int × Int := (w.1, w.2.1)
def idx (us : List Wy) : Nat → Int × Int → List Int
  | 0, _ => []
  | j + 1, p => if us[j]?.map key = some p then idx us j p ++ [(j : Int)] else idx us j p
theorem mem_idx {us : List Wy} {p : Int × Int} {i : Int} : ∀ {j : Nat}, i ∈ idx us j p ↔ ∃ k < j, i = (k : Int) ∧ us[k]?.map key = some p
  | 0 => by simp [idx]
  | j + 1 => by
    unfold idx
    have ih := mem_idx (us := us) (p := p) (i := i) (j := j)
    by_cases h : us[j]?.map key = some p
    · rw [if_pos h, List.mem_append, ih, List.mem_singleton]
      constructor
      · rintro (⟨k, hk, e, q⟩ | e)
        · exact ⟨k, by omega, e, q⟩
        · exact ⟨j, by omega, e, h⟩
      · rintro ⟨k, hk, e, q⟩
        by_cases hj : k = j
        · subst hj; exact .inr e
        · exact .inl ⟨k, by omega, e, q⟩
    · rw [if_neg h, ih]
      constructor
      · rintro ⟨k, hk, e, q⟩
        exact ⟨k, by omega, e, q⟩
      · rintro ⟨k, hk, e, q⟩
        by_cases hj : k = j
        · subst hj; exact absurd q h
        · exact ⟨k, by omega, e, q⟩
theorem idx_len (us : List Wy) (p : Int × Int) : ∀ j, (idx us j p).length ≤ j
  | 0 => by simp [idx]
  | j + 1 => by
    have := idx_len us p j
    unfold idx
    split
    · rw [List.length_append]; simp; omega
    · omega
def kd (p : Int × Int) : Dv := tI [p.1, p.2]
def kk (p : Int × Int) : NestedKey := kN [p.1, p.2]
theorem kk_inj (p q : Int × Int) (h : kk p = kk q) : p = q := by
  have h := kN_inj h
  have h1 := List.cons.inj h
  have h2 := List.cons.inj h1.2
  exact Prod.ext h1.1 h2.1
theorem nk_kd (p : Int × Int) : nk (kd p) = some (kk p) := nk_tI _
theorem tky_kd (p : Int × Int) : tky (kd p) = some (kk p) := tky_tI _
def num (us : List Wy) (j : Nat) (ps : List (Int × Int)) : MO := .dct (ps.map kd) (ps.map fun p => tI (idx us j p))
theorem num_val (us : List Wy) (j : Nat) (ps : List (Int × Int)) (p : Int × Int) : valD (ps.map kd) (ps.map fun p => tI (idx us j p)) (kk p) = if p ∈ ps then some (tI (idx us j p)) else none := valD_map kd kk nk_kd kk_inj (fun p => tI (idx us j p)) ps p
theorem way_cut (w : Wy) : slD (dW w) none (some 2) = M.ret (kd (key w)) := by
  show slD (.tup [.int w.1, .int w.2.1, .int w.2.2.1, .int w.2.2.2]) none (some ((2 : Nat) : Int)) = _
  rw [slD_tup, cut_to]; rfl
theorem getK_at {S : Sto} {n : Nat} {ks vs : List Dv} {i x : Dv} {k : NestedKey} (h : S[n]? = some (.dct ks vs)) (hk : tky i = some k) : getK (.ref n) [i, x] S = some ((valD ks vs k).getD x, S) := by
  unfold getK
  rw [dcV_ref h]
  show (match tky i with | some k => some ((valD ks vs k).getD x, S) | none => none) = _
  rw [hk]
theorem km_at {S : Sto} {n : Nat} {ks vs : List Dv} {m : M Dv} {l : M (List Dv)} {i x : Dv} {k : NestedKey} (hm : m = M.ret (.ref n)) (hl : l = M.ret [i, x]) (h : S[n]? = some (.dct ks vs)) (hk : tky i = some k) : kmD getK m l S = some ((valD ks vs k).getD x, S) := by
  unfold kmD
  rw [hm, hl, M.bind_ret]
  have e : chkK (.ref n) S = some ((), S) := by
    unfold chkK
    rw [dcV_ref h]
  rw [M.bind_of e, M.bind_ret]
  exact getK_at h hk
theorem put_map (us : List Wy) (j : Nat) (p : Int × Int) (hj : us[j]?.map key = some p) : ∀ ps : List (Int × Int), putV (ps.map kk) (kk p) (tI (idx us (j + 1) p)) (ps.map fun p => tI (idx us j p)) = ps.map fun p => tI (idx us (j + 1) p)
  | [] => rfl
  | q :: ps => by
    have ih := put_map us j p hj ps
    show (if kk q = kk p then tI (idx us (j + 1) p) else tI (idx us j q)) :: putV (ps.map kk) (kk p) (tI (idx us (j + 1) p)) (ps.map fun p => tI (idx us j p)) = _
    rw [ih, List.map_cons]
    by_cases e : q = p
    · subst e; rw [if_pos rfl]
    · rw [if_neg fun z => e (kk_inj _ _ z)]
      have : idx us (j + 1) q = idx us j q := by
        conv => lhs; unfold idx
        rw [if_neg (by rw [hj]; intro z; exact e (Option.some.inj z).symm)]
      rw [this]
def psF (us : List Wy) : Nat → List (Int × Int)
  | 0 => []
  | j + 1 => match us[j]?.map key with
    | some p => if p ∈ psF us j then psF us j else psF us j ++ [p]
    | none => psF us j
theorem psF_len (us : List Wy) : ∀ j, (psF us j).length ≤ j
  | 0 => Nat.le_refl _
  | j + 1 => by
    have := psF_len us j
    unfold psF
    split
    · split
      · omega
      · rw [List.length_append]; simp; omega
    · omega
theorem psF_mem (us : List Wy) (p : Int × Int) : ∀ j, p ∈ psF us j ↔ idx us j p ≠ []
  | 0 => by simp [psF, idx]
  | j + 1 => by
    have ih := psF_mem us p j
    unfold psF idx
    cases hj : us[j]?.map key with
    | none => rw [if_neg (fun z => nomatch z)]; exact ih
    | some q =>
      show p ∈ (if q ∈ psF us j then psF us j else psF us j ++ [q]) ↔ _
      by_cases e : q = p
      · subst e
        rw [if_pos rfl]
        refine ⟨fun _ => by simp, fun _ => ?_⟩
        by_cases c : q ∈ psF us j
        · rw [if_pos c]; exact c
        · rw [if_neg c]; simp
      · rw [if_neg fun z => e (Option.some.inj z), ← ih]
        by_cases c : q ∈ psF us j
        · rw [if_pos c]
        · rw [if_neg c, List.mem_append, List.mem_singleton]
          exact ⟨fun z => z.elim id fun z => absurd z.symm e, .inl⟩
def ksF (us : List Wy) : List Dv := (psF us us.length).map kd
def vsF (us : List Wy) : List Dv := (psF us us.length).map fun p => tI (idx us us.length p)
theorem q_numbers (us : List Wy) (few : us.length < 64) : g_numbers_by [.tup (us.map dW)] = M.ret (.dct (ksF us) (vsF us)) := by
  have hs : startE N_numbers_by.length [.tup (us.map dW)] = [some (.tup (us.map dW)), none, none, none] := rfl
  funext S
  obtain ⟨e', S', ⟨a, b, rfl, rfl⟩, h⟩ := forD_idxS (S := S ++ [.dct [] []]) (S0 := S ++ [.dct [] []]) (env := [some (.tup (us.map dW)), some (.ref S.length), none, none]) (m := enmD (consA (rdE 0 [some (.tup (us.map dW)), some (.ref S.length), none, none]) (M.ret []))) (g := tupG 2 (gsCons (setE 2) (gsCons (setE 3) (gsNil))))
    (b := fun env => asgS (fun w env => M.bind (rdE 1 env) fun o => M.bind (M.bind (rdE 3 env) fun x => M.bind (M.ret none) fun i => M.bind (M.bind (M.ret (.int 2)) asI) fun j => slD x i j) fun i => M.bind (putA o i w) fun _ => M.ret env) (M.bind (kmD getK (rdE 1 env) (consA (M.bind (rdE 3 env) fun x => M.bind (M.ret none) fun i => M.bind (M.bind (M.ret (.int 2)) asI) fun j => slD x i j) (consA (tupD (M.ret [])) (M.ret [])))) fun x => M.bind (tupD (consA (rdE 2 env) (M.ret []))) fun y => addD x y) env)
    ((List.range us.length).zip us) (fun p => Dv.tup [.int (p.1 : Nat), dW p.2]) (fun j e S' => ∃ a b, S' = S ++ [num us j (psF us j)] ∧ e = [some (.tup (us.map dW)), some (.ref S.length), a, b])
    (by rw [rdE_zero, consA_ret, ← enmW_map]; rfl) ⟨none, none, rfl, rfl⟩ (by
      rintro j ⟨i, w⟩ hx _ _ ⟨a, b, rfl, rfl⟩
      rw [zip_range] at hx
      obtain ⟨w2, hw, e⟩ := Option.map_eq_some_iff.mp hx
      cases e
      have hj : us[j]?.map key = some (key w) := by rw [hw]; rfl
      have hjl : j < us.length := (List.getElem?_eq_some_iff.mp hw).1
      have hpl := psF_len us j
      have hS : (S ++ [num us j (psF us j)])[S.length]? = some (num us j (psF us j)) := last_at S _
      have e1 : idx us (j + 1) (key w) = idx us j (key w) ++ [(j : Int)] := by
        conv => lhs; unfold idx
        rw [if_pos hj]
      have e2 : ∀ q, q ≠ key w → idx us (j + 1) q = idx us j q := fun q hq => by
        conv => lhs; unfold idx
        rw [if_neg (by rw [hj]; intro z; exact hq (Option.some.inj z).symm)]
      have e4 : psF us (j + 1) = if key w ∈ psF us j then psF us j else psF us j ++ [key w] := by
        conv => lhs; unfold psF
        rw [hj]
      have gv : ((if key w ∈ psF us j then some (tI (idx us j (key w))) else none).getD (Dv.tup []) : Dv) = tI (idx us j (key w)) := by
        by_cases c : key w ∈ psF us j
        · rw [if_pos c]; rfl
        · rw [if_neg c]
          have : idx us j (key w) = [] := Classical.byContradiction fun z => c ((psF_mem us _ j).mpr z)
          rw [this]; rfl
      have lj := idx_len us (key w) j
      have hp : putA (.ref S.length) (kd (key w)) (tI (idx us (j + 1) (key w))) (S ++ [num us j (psF us j)]) = some ((), (S ++ [num us j (psF us j)]).set S.length (num us (j + 1) (psF us (j + 1)))) := by
        rw [e4]
        by_cases c : key w ∈ psF us j
        · rw [if_pos c, putA_old hS (nks_map kd kk nk_kd _) (tky_kd _) (by rw [List.length_map]; omega) (by rw [num_val, if_pos c]), put_map us j (key w) hj]
          rfl
        · rw [if_neg c, putA_new hS (nks_map kd kk nk_kd _) (tky_kd _) (by rw [List.length_map]; omega) (by rw [num_val, if_neg c])]
          unfold num
          rw [List.map_append, List.map_append]
          have e3 : (psF us j).map (fun p => tI (idx us (j + 1) p)) = (psF us j).map (fun p => tI (idx us j p)) := List.map_congr_left fun p hp => by rw [e2 p fun z => c (z ▸ hp)]
          rw [e3]
          rfl
      refine ⟨_, _, ⟨some (.int (j : Nat)), some (dW w), rfl, rfl⟩, ?_⟩
      simp only [tupG_tup, List.length_cons, List.length_nil, if_pos, gsCons_cons, setE_def, M.bind_ret, gsNil_nil, List.set_cons_succ, List.set_cons_zero]
      refine asg_of (w := tI (idx us (j + 1) (key w))) (S1 := S ++ [num us j (psF us j)]) ?_ ?_
      · simp only [rdE_zero, rdE_succ, M.bind_ret, asI_int, way_cut, tupD_nil, consA_ret, tupD_1]
        rw [M.bind_of (km_at (n := S.length) (i := kd (key w)) (x := .tup []) rfl rfl hS (tky_kd _)), num_val, gv, show tI (idx us j (key w)) = .tup ((idx us j (key w)).map .int) from rfl, addD_tup _ _ (by simp; omega), e1]
        show some (Dv.tup ((idx us j (key w)).map .int ++ [.int (j : Nat)]), _) = some (Dv.tup ((idx us j (key w) ++ [(j : Int)]).map .int), _)
        rw [List.map_append]; rfl
      · simp only [rdE_zero, rdE_succ, M.bind_ret, asI_int, way_cut]
        rw [M.bind_of hp, List.set_append_right _ _ (Nat.le_refl _), Nat.sub_self]
        rfl)
  have hn : ((List.range us.length).zip us).length = us.length := by simp
  rw [hn] at h
  have pu1 : ∀ ps : List (Int × Int), Dv.pus (ps.map kd) = true ∧ Dv.pus (ps.map fun p => tI (idx us us.length p)) = true := fun ps => by
    induction ps with
    | nil => exact ⟨rfl, rfl⟩
    | cons p ps ih => exact ⟨by simp [Dv.pus, kd, pu_tI, ih.1], by simp [Dv.pus, pu_tI]; simpa using ih.2⟩
  refine fnM_liveO (n := S.length) (o := num us us.length (psF us us.length)) (S' := S ++ [num us us.length (psF us us.length)]) ?_ (Nat.le_refl _) (last_at S _) rfl ?_ ((Ext.refl S).push _)
  · rw [hs]
    unfold b_numbers_by
    rw [seq_of (set_of (w := .ref S.length) (S' := S ++ [.dct [] []]) rfl)]
    simp only [List.set_cons_succ, List.set_cons_zero]
    rw [seq_of h]
    rfl
  · show (Dv.lts S.length ((psF us us.length).map kd) && Dv.lts S.length ((psF us us.length).map fun p => tI (idx us us.length p))) = true
    rw [pus_lts _ (pu1 _).1, pus_lts _ (pu1 _).2]; rfl
theorem by_at (us : List Wy) {p : Int × Int} (h : ∃ w ∈ us, key w = p) : valD (ksF us) (vsF us) (kk p) = some (tI (idx us us.length p)) := by
  unfold ksF vsF
  rw [num_val, if_pos]
  rw [psF_mem]
  obtain ⟨w, hw, rfl⟩ := h
  obtain ⟨i, hi⟩ := List.getElem?_of_mem hw
  intro z
  have : (i : Int) ∈ idx us us.length (key w) := mem_idx.mpr ⟨i, (List.getElem?_eq_some_iff.mp hi).1, rfl, by rw [hi]; rfl⟩
  rw [z] at this; cases this
end K31
namespace K31
open PySem PySem.Spec PyProof.Rows L2 DD
variable [IW : HasW]
def dR (R L : Nat) (us : List Wy) : Dv := .ob "Reader" ["own_letters", "own_rooms", "own_ways", "own_by"] [.int (L : Int), .int (R : Int), .tup (us.map dW), .dct (ksF us) (vsF us)]
theorem f1 : (("own_rooms" : Str) == "own_letters") = false := by decide +kernel
theorem f2 : (("own_ways" : Str) == "own_letters") = false := by decide +kernel
theorem f3 : (("own_ways" : Str) == "own_rooms") = false := by decide +kernel
theorem f4 : (("own_by" : Str) == "own_letters") = false := by decide +kernel
theorem f5 : (("own_by" : Str) == "own_rooms") = false := by decide +kernel
theorem f6 : (("own_by" : Str) == "own_ways") = false := by decide +kernel
theorem g1 (x : Str) : (x == x) = true := beq_self_eq_true x
@[simp] theorem dR_letters (R L : Nat) (us : List Wy) : fldD ["Reader"] "own_letters" (dR R L us) = M.ret (.int (L : Int)) := by
  funext S
  simp [fldD, obV, dR, List.lookup, M.ret, g1]
@[simp] theorem dR_ways (R L : Nat) (us : List Wy) : fldD ["Reader"] "own_ways" (dR R L us) = M.ret (.tup (us.map dW)) := by
  funext S
  simp [fldD, obV, dR, List.lookup, M.ret, g1, f2, f3]
@[simp] theorem dR_by (R L : Nat) (us : List Wy) : fldD ["Reader"] "own_by" (dR R L us) = M.ret (.dct (ksF us) (vsF us)) := by
  funext S
  simp [fldD, obV, dR, List.lookup, M.ret, g1, f4, f5, f6]
end K31
namespace K31
open PySem PySem.Spec PyProof.Rows L2 DD
variable [IW : HasW]
theorem shaped_tI (ms : List Int) : SeqAt.shaped (py (tI ms)) = true := by
  show (PyData.canLay0 (.tuple (pys (ms.map .int))) && decide (PyData.depth (.tuple (pys (ms.map .int))) ≤ 64)) = true
  have c : PyData.canLayAll0 (pys (ms.map .int)) = true ∧ PyData.depthAll (pys (ms.map .int)) = 0 := by
    induction ms with
    | nil => simp [pys, PyData.canLayAll0, PyData.depthAll]
    | cons a b ih => simp [pys, py, PyData.canLayAll0, PyData.canLay0, PyData.depthAll, PyData.depth, ih.1, ih.2]
  simp [PyData.canLay0, PyData.depth, c.1, c.2]
theorem eqv_tI (a b : List Int) : PyData.eqv (py (tI a)) (py (tI b)) = decide (a = b) := by
  show PyData.eqv (.tuple (pys (a.map .int))) (.tuple (pys (b.map .int))) = _
  rw [PyData.eqv, eqv_ints]
@[simp] theorem eq_nilT (ns : List Int) : eqD (tI ns) (.tup []) = M.ret (.bl (decide (ns = []))) := by
  have := eqv_tI ns []
  rw [← this]
  exact eqD_pu (x := tI ns) (y := tI []) rfl (pu_tI ns) (pu_tI []) (shaped_tI ns) (shaped_tI [])
@[simp] theorem ne_nilT (ns : List Int) : neD (tI ns) (.tup []) = M.ret (.bl (!decide (ns = []))) := by
  have := eqv_tI ns []
  rw [← this]
  exact neD_pu (x := tI ns) (y := tI []) rfl (pu_tI ns) (pu_tI []) (shaped_tI ns) (shaped_tI [])
end K31
namespace K31
open PySem PySem.Spec PyProof.Rows L2 DD
variable [IW : HasW]
/-! ## any value -/
def At (w : Dv) : Prop := (∃ i, w = .int i) ∨ (∃ b, w = .bl b) ∨ w = .non ∨ ∃ x, w = .str x
theorem At.int (i : Int) : At (.int i) := .inl ⟨i, rfl⟩
theorem At.bl (b : Bool) : At (.bl b) := .inr (.inl ⟨b, rfl⟩)
theorem At.non : At .non := .inr (.inr (.inl rfl))
theorem At.str (x : Str) : At (.str x) := .inr (.inr (.inr ⟨x, rfl⟩))
def isI : Dv → Bool
  | .int _ => true
  | _ => false
def cnt : Dv → Bool
  | .int i => decide (0 ≤ i)
  | _ => false
theorem q_isint {w : Dv} (h : At w) : g_is_integer [w] = M.ret (.bl (isI w)) := fnM_ret (by
  have hs : startE N_is_integer.length [w] = [some w] := rfl
  rw [hs]
  unfold b_is_integer
  rcases h with ⟨i, rfl⟩ | ⟨b, rfl⟩ | rfl | ⟨x, rfl⟩ <;> simp only [rdE_zero, consA_ret, M.bind_ret, iA_ii, iA_ib, iA_bi, iA_bb, iA_ni, iA_nb, iA_si, iA_sb, andV_ret, notV_ret, if_pos, Bool.false_eq_true, if_false, retS_ret, Bool.not_true, Bool.not_false] <;> rfl) rfl
theorem q_count {w : Dv} (h : At w) : g_is_count [w] = M.ret (.bl (cnt w)) := fnM_ret (by
  have hs : startE N_is_count.length [w] = [some w] := rfl
  rw [hs]
  unfold b_is_count
  simp only [rdE_zero, consA_ret, callD_ret, List.length_cons, List.length_nil, if_pos, q_isint h]
  rcases h with ⟨i, rfl⟩ | ⟨b, rfl⟩ | rfl | ⟨x, rfl⟩ <;> simp only [isI, andV_ret, if_pos, Bool.false_eq_true, if_false, M.bind_ret, geD_int, retS_ret, cnt]) rfl
theorem len_tI (w : List Int) : lenA [tI w] = M.ret (.int w.length) := by
  unfold tI
  rw [lenA_tup, List.length_map]
theorem sr_tI (w : List Int) : srD (tI w) = M.ret ⟨w.map .int, none⟩ := rfl
theorem isi_tI (w : List Int) : isiA [tI w, .ty "tuple"] = M.ret (.bl true) := iA_tt _
theorem isi_dS (s : Sd) : isiA [dS s, .ty "tuple"] = M.ret (.bl true) := iA_tt _
theorem len_dS (s : Sd) : lenA [dS s] = M.ret (.int 2) := rfl
theorem q_letters {L : Nat} {w : List Int} (hw : Wd L w) (hl : w.length ≤ 40) : g_are_letters [.int (L : Int), tI w] = M.ret (.bl true) := fnM_ret (by
  have hs : startE N_are_letters.length [.int (L : Int), tI w] = [some (.int (L : Int)), some (tI w), none] := rfl
  rw [hs]
  unfold b_are_letters c_MOST_BEGIN
  have h40 : decide ((40 : Int) < (w.length : Int)) = false := decide_eq_false (by omega)
  simp only [rdE_zero, rdE_succ, consA_ret, M.bind_ret, isi_tI, asB_bl, notT_ret, orT_ret, Bool.not_true, Bool.false_eq_true, if_false, len_tI, gtD_int, h40, ifS_ret, nxD_def, seqD_nx]
  rw [lcD_map (m := srD (tI w)) w (fun i => .int i) (fun _ => .bl true) rfl (by omega) fun i hi => ⟨[some (.int (L : Int)), some (tI w), some (.int i)], rfl, by
    have h1 := hw i hi
    simp only [rdE_zero, rdE_succ, consA_ret, M.bind_ret, callD_ret, List.length_cons, List.length_nil, if_pos, q_count (At.int i), cnt, decide_eq_true h1.1, andV_ret, ltD_int, decide_eq_true h1.2]⟩]
  rw [consA_ret, M.bind_ret, allD_true, retS_ret]) rfl
theorem q_isrow {L : Nat} {row : Sd} (h1 : Wd L row.1) (h2 : Wd L row.2) (l1 : row.1.length ≤ 40) (l2 : row.2.length ≤ 40) (hne : row.2 ≠ []) : g_is_row_of [.int (L : Int), dS row] = M.ret (.bl true) := fnM_ret (by
  have hs : startE N_is_row_of.length [.int (L : Int), dS row] = [some (.int (L : Int)), some (dS row)] := rfl
  rw [hs]
  unfold b_is_row_of
  simp only [rdE_zero, rdE_succ, consA_ret, M.bind_ret, isi_dS, asB_bl, notT_ret, orT_ret, Bool.not_true, Bool.false_eq_true, if_false, len_dS, neD_int, decide_true, ifS_ret, nxD_def, seqD_nx, dS_0, dS_1, callD_ret, List.length_cons, List.length_nil, if_pos, q_letters h1 l1, q_letters h2 l2, andV_ret, tupD_nil, ne_nilT, decide_eq_false hne, Bool.not_false, retS_ret]) rfl
theorem q_wrow {L : Nat} {row : Sd} (h1 : Wd L row.1) (h2 : Wd L row.2) (l1 : row.1.length ≤ 40) (l2 : row.2.length ≤ 40) (hne : row.2 ≠ []) : g_want_row [.int (L : Int), dS row] = M.ret (dS row) := fnM_ret (by
  have hs : startE N_want_row.length [.int (L : Int), dS row] = [some (.int (L : Int)), some (dS row)] := rfl
  rw [hs]
  unfold b_want_row
  simp only [rdE_zero, rdE_succ, consA_ret, M.bind_ret, callD_ret, List.length_cons, List.length_nil, if_pos, q_isrow h1 h2 l1 l2 hne, asB_bl, notT_ret, Bool.not_true, Bool.false_eq_true, if_false, ifS_ret, nxD_def, seqD_nx, retS_ret]) (pu_dS _)
/-! what a def hands out that is no plain data -/
theorem fnM_lt {N : Nat} {m : En → M Fl} {ws : List Dv} {w : Dv} (h : m (startE N ws) = M.ret (.rt w)) (hp : ∀ k, w.lt k = true) : fnM N m ws = M.ret w := by
  funext S
  rw [fnM_of (w := w) (S' := S) (by rw [h]; rfl) (show outW S.length S w = some w by unfold outW; rw [if_pos (hp _)]) (keepOk_refl S), take_len]
  rfl
theorem lt_dR (R L : Nat) (us : List Wy) (k : Nat) : (dR R L us).lt k = true := by
  have p1 : Dv.pus (us.map dW) = true := by
    induction us with
    | nil => rfl
    | cons a b ih => simp [Dv.pus, dW, pu_tI]; exact ih
  have pu1 : ∀ ps : List (Int × Int), Dv.pus (ps.map kd) = true ∧ Dv.pus (ps.map fun p => tI (idx us us.length p)) = true := fun ps => by
    induction ps with
    | nil => exact ⟨rfl, rfl⟩
    | cons p ps ih => exact ⟨by simp [Dv.pus, kd, pu_tI, ih.1], by simp [Dv.pus, pu_tI]; simpa using ih.2⟩
  show Dv.lts k [.int (L : Int), .int (R : Int), .tup (us.map dW), .dct (ksF us) (vsF us)] = true
  simp only [Dv.lts, Dv.lt, Bool.true_and, Bool.and_true]
  rw [pus_lts _ p1]
  unfold ksF vsF
  rw [pus_lts _ (pu1 _).1, pus_lts _ (pu1 _).2]; rfl
theorem isi_dR (R L : Nat) (us : List Wy) : isiA [dR R L us, .cl "Reader"] = M.ret (.bl true) := by
  funext S
  show some (Dv.bl (decide (("Reader" : String) = "Reader")), S) = _
  rw [decide_eq_true rfl]; rfl
theorem q_wreader (R L : Nat) (us : List Wy) : g_want_reader [dR R L us] = M.ret (dR R L us) := fnM_lt (by
  have hs : startE N_want_reader.length [dR R L us] = [some (dR R L us)] := rfl
  rw [hs]
  unfold b_want_reader
  simp only [rdE_zero, consA_ret, M.bind_ret, isi_dR, asB_bl, notT_ret, Bool.not_true, Bool.false_eq_true, if_false, ifS_ret, nxD_def, seqD_nx, retS_ret]) (lt_dR R L us)
/-! ## is a value a barred paper -/
theorem eqv_dS (s t : Sd) : PyData.eqv (py (dS s)) (py (dS t)) = decide (s = t) := by
  show PyData.eqv (.tuple [py (tI s.1), py (tI s.2)]) (.tuple [py (tI t.1), py (tI t.2)]) = _
  rw [PyData.eqv, PyData.eqvAll, PyData.eqvAll, PyData.eqvAll, eqv_tI, eqv_tI, Bool.and_true]
  by_cases h1 : s.1 = t.1 <;> by_cases h2 : s.2 = t.2
  · rw [decide_eq_true h1, decide_eq_true h2, decide_eq_true (Prod.ext h1 h2)]; rfl
  · rw [decide_eq_false h2, decide_eq_false fun z => h2 (congrArg Prod.snd z), Bool.and_false]
  · rw [decide_eq_false h1, decide_eq_false fun z => h1 (congrArg Prod.fst z), Bool.false_and]
  · rw [decide_eq_false h1, decide_eq_false fun z => h1 (congrArg Prod.fst z), Bool.false_and]
theorem shaped_dS (s : Sd) : SeqAt.shaped (py (dS s)) = true := by
  have h1 := shaped_tI s.1
  have h2 := shaped_tI s.2
  have e : ∀ d : PyData, SeqAt.shaped d = (PyData.canLay0 d && decide (PyData.depth d ≤ 64)) := fun _ => rfl
  have c : ∀ ms : List Int, PyData.canLay0 (py (tI ms)) = true ∧ PyData.depth (py (tI ms)) = 1 := fun ms => by
    have q : PyData.canLayAll0 (pys (ms.map .int)) = true ∧ PyData.depthAll (pys (ms.map .int)) = 0 := by
      induction ms with
      | nil => simp [pys, PyData.canLayAll0, PyData.depthAll]
      | cons a b ih => simp [pys, py, PyData.canLayAll0, PyData.canLay0, PyData.depthAll, PyData.depth, ih.1, ih.2]
    constructor
    · show PyData.canLay0 (.tuple (pys (ms.map .int))) = true
      rw [PyData.canLay0, q.1]
    · show PyData.depth (.tuple (pys (ms.map .int))) = 1
      rw [PyData.depth, q.2]
  rw [e]
  show (PyData.canLay0 (.tuple [py (tI s.1), py (tI s.2)]) && decide (PyData.depth (.tuple [py (tI s.1), py (tI s.2)]) ≤ 64)) = true
  simp [PyData.canLay0, PyData.canLayAll0, PyData.depth, PyData.depthAll, (c s.1).1, (c s.2).1, (c s.1).2, (c s.2).2]
@[simp] theorem eq_dS (s t : Sd) : eqD (dS s) (dS t) = M.ret (.bl (decide (s = t))) := by
  rw [← eqv_dS]
  exact eqD_pu (x := dS s) (y := dS t) rfl (pu_dS s) (pu_dS t) (shaped_dS s) (shaped_dS t)
theorem push_set (S : Sto) (o p : MO) : (S ++ [o]).set S.length p = S ++ [p] := by
  rw [List.set_append_right _ _ (Nat.le_refl _), Nat.sub_self]; rfl
theorem par_of {i j : Nat} {m : M (List Dv)} {env : En} {S S' : Sto} {v w : Dv} (h : m S = some ([v, w], S')) : parS i j m env S = some (.nx ((env.set i (some v)).set j (some w)), S') := by
  unfold parS; rw [M.bind_of h]; rfl
theorem first_dS : Dv.tup [.tup [.int 0], .tup [.int 0]] = dS ([0], [0]) := rfl
end K31
namespace K31
open PySem PySem.Spec PyProof.Rows L2 DD
variable [IW : HasW]
theorem seqN {m : M Fl} {k : En → M Fl} {e : En} (h : m = M.ret (.nx e)) : seqD m k = k e := by rw [h]; rfl
theorem any2 (p q : Bool) : anyD [.lst [.bl p, .bl q]] = M.ret (.bl (p || (q || false))) := anyD_bools [p, q]
theorem all2 (p q : Bool) : allD [.lst [.bl p, .bl q]] = M.ret (.bl (p && (q && true))) := allD_bools [p, q]
theorem new_at (S : Sto) : newT S = some (.ref S.length, S ++ [.dct [] []]) := rfl
theorem tup_of {m : M (List Dv)} {S S' : Sto} {ws : List Dv} (h : m S = some (ws, S')) (hl : ws.length ≤ 1000000) : tupD m S = some (.tup ws, S') := by
  unfold tupD
  rw [M.bind_of h, if_pos (line_ge hl)]
section
variable {R L : Nat} {us : List Wy} {row : Sd}
end
end K31
namespace K31
open PySem PySem.Spec PyProof.Rows L2 DD
variable [IW : HasW]
/-! ## the reader is made -/
theorem ddp_id {α : Type} [DecidableEq α] : ∀ {xs : List α}, xs.Nodup → ddp xs = xs
  | [], _ => rfl
  | x :: xs, h => by
    obtain ⟨h1, h2⟩ := List.nodup_cons.mp h
    unfold ddp
    rw [if_neg h1, ddp_id h2]
theorem wI_inj {a b : Wy} (h : wI a = wI b) : a = b := by
  have h1 := List.cons.inj h
  have h2 := List.cons.inj h1.2
  have h3 := List.cons.inj h2.2
  have h4 := List.cons.inj h3.2
  exact Prod.ext h1.1 (Prod.ext h2.1 (Prod.ext h3.1 h4.1))
theorem dW_inj {a b : Wy} (h : dW a = dW b) : a = b := by
  have h := Dv.tup.inj h
  exact wI_inj ((List.map_inj_right (fun _ _ e => Dv.int.inj e)).mp h)
theorem dW_map (us : List Wy) : us.map dW = (us.map wI).map tI := by rw [List.map_map]; rfl
theorem nd_wI {us : List Wy} (h : us.Nodup) : (us.map wI).Nodup := List.pairwise_map.mpr (h.imp fun hne e => hne (wI_inj e))
theorem q_want_letters {L : Nat} (h1 : 1 ≤ L) (h4 : L ≤ 4) : g_want_letters [.int (L : Int)] = M.ret (.int (L : Int)) := fnM_ret (by
  have hs : startE N_want_letters.length [.int (L : Int)] = [some (.int (L : Int))] := rfl
  rw [hs]
  unfold b_want_letters c_MOST_LETTERS
  have a1 : decide ((0 : Int) ≤ (L : Int)) = true := decide_eq_true (by omega)
  have a2 : decide ((1 : Int) ≤ (L : Int)) = true := decide_eq_true (by omega)
  have a3 : decide ((L : Int) ≤ 4) = true := decide_eq_true (by omega)
  simp only [rdE_zero, consA_ret, callD_ret, List.length_cons, List.length_nil, if_pos, q_count (At.int _), cnt, M.bind_ret, asB_bl, notT_ret, orT_ret, chD_int, leD_int, a1, a2, a3, Bool.not_true, Bool.false_eq_true, if_false, ifS_ret, nxD_def, seqD_nx, retS_ret]) rfl
theorem q_way {R L : Nat} {w : Wy} (h : (0 ≤ w.1 ∧ w.1 < (R : Int)) ∧ (0 ≤ w.2.1 ∧ w.2.1 < (L : Int)) ∧ (0 ≤ w.2.2.1 ∧ w.2.2.1 < (R : Int)) ∧ (0 ≤ w.2.2.2 ∧ w.2.2.2 < 2)) : g_is_way_of [.int (L : Int), .int (R : Int), dW w] = M.ret (.bl true) := fnM_ret (by
  have hs : startE N_is_way_of.length [.int (L : Int), .int (R : Int), dW w] = [some (.int (L : Int)), some (.int (R : Int)), some (dW w), none] := rfl
  rw [hs]
  unfold b_is_way_of c_WAY_PARTS
  have lc : lcD (M.bind (rdE 2 [some (.int (L : Int)), some (.int (R : Int)), some (dW w), none]) srD) [3] (setE 3) (fun _ => M.ret true) (fun env => callD 1 g_is_count (consA (rdE 3 env) (M.ret []))) [some (.int (L : Int)), some (.int (R : Int)), some (dW w), none] = M.ret (.lst ((wI w).map fun _ => .bl true)) := by
    refine lcD_map (wI w) (fun i => .int i) (fun _ => .bl true) rfl (by simp [wI]) fun i hi => ⟨[some (.int (L : Int)), some (.int (R : Int)), some (dW w), some (.int i)], rfl, ?_⟩
    have hi0 : 0 ≤ i := by
      unfold wI at hi
      rcases List.mem_cons.mp hi with rfl | hi
      · exact h.1.1
      rcases List.mem_cons.mp hi with rfl | hi
      · exact h.2.1.1
      rcases List.mem_cons.mp hi with rfl | hi
      · exact h.2.2.1.1
      · rw [List.mem_singleton.mp hi]; exact h.2.2.2.1
    simp only [rdE_zero, rdE_succ, consA_ret, callD_ret, List.length_cons, List.length_nil, if_pos, q_count (At.int i), cnt, decide_eq_true hi0]
  rw [lc]
  have x0 : ixA (dW w) (.int 0) = M.ret (.int w.1) := by rw [dW_eq, ixA_tup, atI_00]; rfl
  have x1 : ixA (dW w) (.int 1) = M.ret (.int w.2.1) := by rw [dW_eq, ixA_tup, atI_1]; rfl
  have x2 : ixA (dW w) (.int 2) = M.ret (.int w.2.2.1) := by rw [dW_eq, ixA_tup, atI_of (a := Dv.int w.2.2.1) (by decide) rfl]; rfl
  have x3 : ixA (dW w) (.int 3) = M.ret (.int w.2.2.2) := by rw [dW_eq, ixA_tup, atI_of (a := Dv.int w.2.2.2) (by decide) rfl]; rfl
  have i0 : isiA [dW w, .ty "tuple"] = M.ret (.bl true) := iA_tt _
  have n0 : lenA [dW w] = M.ret (.int 4) := rfl
  simp only [rdE_zero, rdE_succ, consA_ret, M.bind_ret, i0, n0, asB_bl, notT_ret, Bool.not_true, Bool.false_eq_true, if_false, orT_ret, neD_int, decide_true, allD_true, ifS_ret, nxD_def, seqD_nx, x0, x1, x2, x3, ltD_int, decide_eq_true h.1.2, decide_eq_true h.2.1.2, decide_eq_true h.2.2.1.2, decide_eq_true h.2.2.2.2, andV_ret, if_pos, retS_ret]) rfl
/-- as many begins as rooms and letters -/
theorem begins_len {R L : Nat} {us : List Wy} (h : Ws R L us) : (ddp (us.map fun w => [w.1, w.2.1])).length = L * R := by
  let code : List Int → Nat := fun ns => (ns.getD 0 0).toNat * L + (ns.getD 1 0).toNat
  have mem : ∀ x, x ∈ ddp (us.map fun w => [w.1, w.2.1]) ↔ ∃ w ∈ us, [w.1, w.2.1] = x := fun x => by rw [ddp_mem, List.mem_map]
  have a : ((ddp (us.map fun w => [w.1, w.2.1])).map code).length ≤ (List.range (L * R)).length := by
    refine L2.nat_nodup_len _ _ (List.pairwise_map.mpr (List.Pairwise.imp_of_mem (fun {x y} hx hy (hne : x ≠ y) e => ?_) (ddp_nd _))) fun x hx => ?_
    · obtain ⟨v, hv, rfl⟩ := (mem x).mp hx
      obtain ⟨w, hw, rfl⟩ := (mem y).mp hy
      have r1 := h.rng v hv
      have r2 := h.rng w hw
      have e : v.1.toNat * L + v.2.1.toNat = w.1.toNat * L + w.2.1.toNat := e
      have b1 : v.2.1.toNat < L := by omega
      have b2 : w.2.1.toNat < L := by omega
      have d1 : (v.1.toNat * L + v.2.1.toNat) / L = v.1.toNat := by
        rw [Nat.mul_comm, Nat.mul_add_div (by omega), Nat.div_eq_of_lt b1, Nat.add_zero]
      have d2 : (w.1.toNat * L + w.2.1.toNat) / L = w.1.toNat := by
        rw [Nat.mul_comm, Nat.mul_add_div (by omega), Nat.div_eq_of_lt b2, Nat.add_zero]
      have q1 : v.1.toNat = w.1.toNat := by rw [← d1, ← d2, e]
      have q2 : v.2.1.toNat = w.2.1.toNat := by rw [q1] at e; omega
      exact hne (by rw [show v.1 = w.1 by omega, show v.2.1 = w.2.1 by omega])
    · obtain ⟨y, hy, rfl⟩ := List.mem_map.mp hx
      obtain ⟨w, hw, rfl⟩ := (mem y).mp hy
      have r1 := h.rng w hw
      have b1 : w.2.1.toNat < L := by omega
      have b2 : w.1.toNat + 1 ≤ R := by omega
      have := Nat.mul_le_mul_right L b2
      rw [Nat.succ_mul] at this
      refine List.mem_range.mpr ?_
      show w.1.toNat * L + w.2.1.toNat < L * R
      rw [Nat.mul_comm L R]
      omega
  have b : (List.range (L * R)).length ≤ ((ddp (us.map fun w => [w.1, w.2.1])).map code).length := by
    refine L2.nat_nodup_len _ _ List.nodup_range fun k hk => ?_
    have hk := List.mem_range.mp hk
    have hL : 0 < L := h.L1
    have k1 : k / L < R := Nat.div_lt_of_lt_mul hk
    have k2 := Nat.mod_lt k hL
    obtain ⟨w, hw, e1, e2⟩ := h.all ((k / L : Nat) : Int) ((k % L : Nat) : Int) (Int.natCast_nonneg _) (Int.ofNat_lt.mpr k1) (Int.natCast_nonneg _) (Int.ofNat_lt.mpr k2)
    refine List.mem_map.mpr ⟨[w.1, w.2.1], (mem _).mpr ⟨w, hw, rfl⟩, ?_⟩
    show w.1.toNat * L + w.2.1.toNat = k
    rw [e1, e2, Int.toNat_natCast, Int.toNat_natCast, Nat.mul_comm]
    exact Nat.div_add_mod k L
  rw [List.length_map, List.length_range] at a
  rw [List.length_map, List.length_range] at b
  omega
theorem Ws.ne {R L : Nat} {us : List Wy} (h : Ws R L us) : us ≠ [] := by
  have r1 := h.R1; have l1 := h.L1
  obtain ⟨w, hw, _⟩ := h.all 0 0 (by omega) (by omega) (by omega) (by omega)
  intro z
  rw [z] at hw; cases hw
theorem q_are_ways {R L : Nat} {us : List Wy} (h : Ws R L us) : g_are_ways [.int (L : Int), .int (R : Int), .lst (us.map dW)] = M.ret (.bl true) := fnM_ret (by
  have hs : startE N_are_ways.length [.int (L : Int), .int (R : Int), .lst (us.map dW)] = [some (.int (L : Int)), some (.int (R : Int)), some (.lst (us.map dW)), none, none, none] := rfl
  rw [hs]
  unfold b_are_ways c_MOST_WAYS
  have few := h.few
  have hne := h.ne
  have pos : 0 < us.length := List.length_pos_iff.mpr hne
  have il : g_is_list [.lst (us.map dW)] = M.ret (.bl true) := fnM_ret (by
    have hs : startE N_is_list.length [.lst (us.map dW)] = [some (.lst (us.map dW))] := rfl
    rw [hs]
    unfold b_is_list
    simp only [rdE_zero, consA_ret, tupD_2, M.bind_ret, iA_llt, retS_ret]) rfl
  have a1 : decide ((1 : Int) ≤ (us.length : Int)) = true := decide_eq_true (by omega)
  have a2 : decide ((us.length : Int) ≤ 400) = true := decide_eq_true (by omega)
  rw [seqN (e := [some (.int (L : Int)), some (.int (R : Int)), some (.lst (us.map dW)), none, none, none]) (by
    simp only [rdE_zero, rdE_succ, consA_ret, callD_ret, List.length_cons, List.length_nil, if_pos, il, M.bind_ret, asB_bl, notT_ret, orT_ret, Bool.not_true, Bool.false_eq_true, if_false, lenA_lst, List.length_map, chD_int, leD_int, a1, a2, ifS_ret, nxD_def])]
  have lc1 : lcD (M.bind (rdE 2 [some (.int (L : Int)), some (.int (R : Int)), some (.lst (us.map dW)), none, none, none]) srD) [3] (setE 3) (fun _ => M.ret true) (fun env => callD 3 g_is_way_of (consA (rdE 0 env) (consA (rdE 1 env) (consA (rdE 3 env) (M.ret []))))) [some (.int (L : Int)), some (.int (R : Int)), some (.lst (us.map dW)), none, none, none] = M.ret (.lst (us.map fun _ => .bl true)) := by
    refine lcD_map us dW (fun _ => .bl true) rfl (by omega) fun w hw => ⟨[some (.int (L : Int)), some (.int (R : Int)), some (.lst (us.map dW)), some (dW w), none, none], rfl, ?_⟩
    simp only [rdE_zero, rdE_succ, consA_ret, callD_ret, List.length_cons, List.length_nil, if_pos, q_way (h.rng w hw)]
  rw [lc1]
  rw [seqN (e := [some (.int (L : Int)), some (.int (R : Int)), some (.lst (us.map dW)), none, none, none]) (by
    simp only [consA_ret, M.bind_ret, allD_true, asB_bl, notT_ret, Bool.not_true, ifS_ret, Bool.false_eq_true, if_false, nxD_def])]
  rw [seqS (w := .stt (ddp (us.map wI))) (by
    simp only [rdE_zero, rdE_succ, consA_ret, M.bind_ret, dW_map]
    exact setD_tups _ (by rw [List.length_map]; exact few) (by simpa using hne))]
  simp only [List.set_cons_succ, List.set_cons_zero]
  have lc2 : lcD (M.bind (rdE 2 [some (.int (L : Int)), some (.int (R : Int)), some (.lst (us.map dW)), none, some (.stt (ddp (us.map wI))), none]) srD) [3] (setE 3) (fun _ => M.ret true) (fun env => M.bind (rdE 3 env) fun x => M.bind (M.ret none) fun i => M.bind (M.bind (M.ret (.int 2)) asI) fun j => slD x i j) [some (.int (L : Int)), some (.int (R : Int)), some (.lst (us.map dW)), none, some (.stt (ddp (us.map wI))), none] = M.ret (.lst (us.map fun w => kd (key w))) := by
    refine lcD_map us dW (fun w => kd (key w)) rfl (by omega) fun w hw => ⟨[some (.int (L : Int)), some (.int (R : Int)), some (.lst (us.map dW)), some (dW w), some (.stt (ddp (us.map wI))), none], rfl, ?_⟩
    simp only [rdE_zero, rdE_succ, M.bind_ret, asI_int, way_cut]
  rw [lc2]
  have e1 : us.map (fun w => kd (key w)) = (us.map fun w => [w.1, w.2.1]).map tI := by rw [List.map_map]; rfl
  rw [seqS (w := .stt (ddp (us.map fun w => [w.1, w.2.1]))) (by
    simp only [consA_ret, M.bind_ret]
    rw [e1]
    exact setD_tups _ (by rw [List.length_map]; exact few) (by simpa using hne))]
  have r5 := h.R5; have l4 := h.L4
  have e2 : ((ddp (us.map fun w => [w.1, w.2.1])).length : Int) = (L : Int) * (R : Int) := by rw [begins_len h]; simp
  simp only [List.set_cons_succ, List.set_cons_zero, rdE_zero, rdE_succ, consA_ret, M.bind_ret, lenA_stt, lenA_lst, List.length_map, ddp_id (nd_wI h.nd), eqD_int, decide_true, andV_ret, if_pos, mulD_small (L : Int) (R : Int) (by omega) (by omega), e2, retS_ret]) rfl
end K31
namespace DD
open PySem PySem.Spec PyProof.Rows L2
variable [IW : HasW]
theorem fnM_nxS {N : Nat} {m : En → M Fl} {ws : List Dv} {S : Sto} {n : Nat} {o : MO} {e : En} (h : m (startE N ws) S = some (.nx e, S.set n o)) (hk : KeepOk S (S.set n o)) : fnM N m ws S = some (.non, S.set n o) := by
  unfold fnM
  rw [h]
  show (if KeepOk S (S.set n o) then some (Dv.non, (S.set n o).take S.length) else none) = _
  rw [if_pos hk, show S.length = (S.set n o).length by rw [List.length_set], take_len]
theorem setF_at {S : Sto} {n : Nat} {cl : String} {cls : List String} {f : Str} {fs : List Str} {vs : List Dv} {w : Dv} (h : S[n]? = some (.ob cl fs vs)) (h1 : cl ∈ cls) (h2 : f ∉ fs) (h3 : fs.length < 1000) (h4 : vs.length = fs.length) : setF cls f (.ref n) w S = some ((), S.set n (.ob cl (fs ++ [f]) (vs ++ [w]))) := by
  show (match S[n]? with | some (.ob cl fs vs) => if cl ∈ cls ∧ f ∉ fs ∧ fs.length < 1000 ∧ vs.length = fs.length then some ((), S.set n (.ob cl (fs ++ [f]) (vs ++ [w]))) else none | _ => none) = _
  rw [h]
  show (if cl ∈ cls ∧ f ∉ fs ∧ fs.length < 1000 ∧ vs.length = fs.length then some ((), S.set n (.ob cl (fs ++ [f]) (vs ++ [w]))) else none) = _
  rw [if_pos ⟨h1, h2, h3, h4⟩]
theorem fldS_at {S : Sto} {n : Nat} {cl : String} {cls : List String} {f : Str} {fs : List Str} {vs : List Dv} {w : Dv} {mo mv : M Dv} {env : En} (ho : mo = M.ret (.ref n)) (hv : mv S = some (w, S)) (h : S[n]? = some (.ob cl fs vs)) (h1 : cl ∈ cls) (h2 : f ∉ fs) (h3 : fs.length < 1000) (h4 : vs.length = fs.length) : fldS cls f mo mv env S = some (.nx env, S.set n (.ob cl (fs ++ [f]) (vs ++ [w]))) := by
  unfold fldS
  rw [M.bind_of hv, ho, M.bind_ret, M.bind_of (setF_at h h1 h2 h3 h4)]
  rfl
theorem fldD_at {S : Sto} {n : Nat} {cl : String} {cls : List String} {f : Str} {fs : List Str} {vs : List Dv} {x : Dv} (h : S[n]? = some (.ob cl fs vs)) (h1 : cl ∈ cls) (hl : (fs.zip vs).lookup f = some x) : fldD cls f (.ref n) S = some (x, S) := by
  have e : obV S (.ref n) = some (cl, fs, vs) := by
    show (match S[n]? with | some (.ob cl fs vs) => some (cl, fs, vs) | _ => none) = _
    rw [h]
  unfold fldD
  rw [e]
  show (if cl ∈ cls then (match (fs.zip vs).lookup f with | some x => some (x, S) | none => none) else none) = _
  rw [if_pos h1, hl]
end DD
namespace K31
open PySem PySem.Spec PyProof.Rows L2 DD
variable [IW : HasW]
/-! ## sorted ways -/
theorem alike_ints : ∀ u v : List Int, PySem.W.alikeAll (pys (u.map .int)) (pys (v.map .int)) = true
  | [], _ => by simp [pys, PySem.W.alikeAll]
  | _ :: _, [] => by simp [pys, PySem.W.alikeAll]
  | a :: u, b :: v => by
    have := alike_ints u v
    simp [pys, py, PySem.W.alikeAll, PySem.W.alike, this]
theorem sortOk_W (us : List Wy) : SortOk (us.map dW) := by
  refine ⟨?_, ?_, .inl ?_, ?_⟩
  · induction us with
    | nil => rfl
    | cons a b ih => simp [Dv.pus, dW, pu_tI]; exact ih
  · intro d hd e he
    obtain ⟨x, hx, rfl⟩ := List.mem_map.mp hd
    obtain ⟨y, hy, rfl⟩ := List.mem_map.mp he
    obtain ⟨r, _, rfl⟩ := List.mem_map.mp hx
    obtain ⟨s, _, rfl⟩ := List.mem_map.mp hy
    show PySem.W.alike (.tuple (pys ((wI r).map .int))) (.tuple (pys ((wI s).map .int))) = true
    rw [PySem.W.alike]
    exact alike_ints _ _
  · intro d hd
    obtain ⟨x, hx, rfl⟩ := List.mem_map.mp hd
    obtain ⟨r, _, rfl⟩ := List.mem_map.mp hx
    exact ⟨_, _, rfl⟩
  · intro u hu
    obtain ⟨r, _, rfl⟩ := List.mem_map.mp hu
    show PyData.depth (.tuple (pys ((wI r).map .int))) ≤ 60
    have : ∀ ms : List Int, PyData.depthAll (pys (ms.map .int)) = 0 := fun ms => by
      induction ms with
      | nil => simp [pys, PyData.depthAll]
      | cons a b ih => simp [pys, py, PyData.depthAll, PyData.depth, ih]
    rw [PyData.depth, this]
    omega
theorem perm_map {α β : Type} (f : α → β) : ∀ {ys : List β} {xs : List α}, ys.Perm (xs.map f) → ∃ zs : List α, zs.Perm xs ∧ zs.map f = ys
  | [], xs, h => by
    have : xs = [] := by simpa using h.symm.eq_nil
    subst this
    exact ⟨[], .nil, rfl⟩
  | y :: ys, xs, h => by
    obtain ⟨x, hx, rfl⟩ := List.mem_map.mp (h.subset List.mem_cons_self)
    obtain ⟨a, b, rfl⟩ := List.append_of_mem hx
    have p : ys.Perm ((a ++ b).map f) := by
      have h1 : (f x :: ys).Perm (f x :: (a ++ b).map f) := by
        refine h.trans ?_
        rw [List.map_append, List.map_cons, List.map_append]
        exact List.perm_middle
      exact (List.perm_cons _).mp h1
    obtain ⟨zs, hz, e⟩ := perm_map f p
    exact ⟨x :: zs, (hz.cons x).trans List.perm_middle.symm, by rw [List.map_cons, e]⟩
theorem sort_W (us : List Wy) : ∃ us' : List Wy, us'.Perm us ∧ sortL (us.map dW) = us'.map dW := by
  obtain ⟨zs, h1, h2⟩ := perm_map dW (List.mergeSort_perm (us.map dW) (PySem.W.dataLe false py))
  exact ⟨zs, h1, h2.symm⟩
theorem intsOf_W {us : List Wy} (h : us ≠ []) : intsOf (us.map dW) = none := by
  cases us with
  | nil => exact absurd rfl h
  | cons a b => rfl
theorem sorted_W {us us' : List Wy} (hne : us ≠ []) (hl : us.length ≤ 1000000) (he : sortL (us.map dW) = us'.map dW) : sortedA [.lst (us.map dW)] = M.ret (.lst (us'.map dW)) := by
  funext S
  show (match intsOf (us.map dW) with | some ns => some (Dv.lst ((srtI ns).map .int), S) | none => sortedD [.lst (us.map dW)] S) = _
  rw [intsOf_W hne]
  show (if (us.map dW).length ≤ sizeLine ∧ SortOk (us.map dW) then some (Dv.lst (sortL (us.map dW)), S) else none) = _
  rw [if_pos ⟨line_ge (by rw [List.length_map]; exact hl), sortOk_W us⟩, he]
  rfl
theorem Ws.perm {R L : Nat} {us us' : List Wy} (h : Ws R L us) (p : us'.Perm us) : Ws R L us' := ⟨fun w hw => h.rng w (p.subset hw), fun r l h1 h2 h3 h4 => by
  obtain ⟨w, hw, q⟩ := h.all r l h1 h2 h3 h4
  exact ⟨w, p.symm.subset hw, q⟩, p.nodup_iff.mpr h.nd, by rw [p.length_eq]; exact h.few, h.R1, h.R5, h.L1, h.L4⟩
theorem lt_rd (fs : List Str) (L R : Nat) (us : List Wy) (k : Nat) : (MO.ob "Reader" fs [.int (L : Int), .int (R : Int), .tup (us.map dW), .dct (ksF us) (vsF us)]).lt k = true := lt_dR R L us k
end K31
namespace K31
open PySem PySem.Spec PyProof.Rows L2 DD
variable [IW : HasW]
theorem mem_no {x : Str} : ∀ {ys : List Str}, (ys.all fun y => !(x == y)) = true → x ∉ ys
  | [], _, h => nomatch h
  | y :: ys, h, m => by
    have h' : (!(x == y)) = true ∧ (ys.all fun y => !(x == y)) = true := by simpa using h
    rcases List.mem_cons.mp m with rfl | m
    · have := h'.1
      rw [g1] at this; cases this
    · exact mem_no h'.2 m
abbrev fL : Str := "own_letters"
abbrev fR : Str := "own_rooms"
abbrev fW : Str := "own_ways"
abbrev fB : Str := "own_by"
theorem n1 : fR ∉ [fL] := mem_no (by decide +kernel)
theorem n2 : fW ∉ [fL, fR] := mem_no (by decide +kernel)
theorem n3 : fB ∉ [fL, fR, fW] := mem_no (by decide +kernel)
theorem q_init {R L : Nat} {us us' : List Wy} (h : Ws R L us) (p : us'.Perm us) (he : sortL (us.map dW) = us'.map dW) (S : Sto) :
    g_Reader___init__ [.ref S.length, .int (L : Int), .int (R : Int), .lst (us.map dW)] (S ++ [.ob "Reader" [] []]) = some (.non, S ++ [.ob "Reader" [fL, fR, fW, fB] [.int (L : Int), .int (R : Int), .tup (us'.map dW), .dct (ksF us') (vsF us')]]) := by
  have hs : startE N_Reader___init__.length [.ref S.length, .int (L : Int), .int (R : Int), .lst (us.map dW)] = [some (.ref S.length), some (.int (L : Int)), some (.int (R : Int)), some (.lst (us.map dW))] := rfl
  have h' := h.perm p
  have few := h.few
  have r1 := h.R1
  have r5 := h.R5
  have a1 : decide ((0 : Int) ≤ (R : Int)) = true := decide_eq_true (by omega)
  have a2 : decide ((1 : Int) ≤ (R : Int)) = true := decide_eq_true (by omega)
  have a3 : decide ((R : Int) ≤ 24) = true := decide_eq_true (by omega)
  have mc : ("Reader" : String) ∈ ["Reader"] := List.mem_cons_self
  obtain ⟨o, ho⟩ : ∃ o : MO, o = .ob "Reader" [fL, fR, fW, fB] [.int (L : Int), .int (R : Int), .tup (us'.map dW), .dct (ksF us') (vsF us')] := ⟨_, rfl⟩
  obtain ⟨e, hE⟩ : ∃ e : En, e = [some (.ref S.length), some (.int (L : Int)), some (.int (R : Int)), some (.lst (us.map dW))] := ⟨_, rfl⟩
  have s1 : fldS ["Reader"] fL (rdE 0 e) (rdE 1 e) e (S ++ [.ob "Reader" [] []]) = some (.nx e, S ++ [.ob "Reader" [fL] [.int (L : Int)]]) := by
    rw [fldS_at (fs := []) (vs := []) (w := .int (L : Int)) (by rw [hE]; rfl) (by rw [hE]; rfl) (last_at S _) mc List.not_mem_nil (by decide) rfl, push_set]
    rfl
  have s2 : fldS ["Reader"] fR (rdE 0 e) (rdE 2 e) e (S ++ [.ob "Reader" [fL] [.int (L : Int)]]) = some (.nx e, S ++ [.ob "Reader" [fL, fR] [.int (L : Int), .int (R : Int)]]) := by
    rw [fldS_at (fs := [fL]) (vs := [.int (L : Int)]) (w := .int (R : Int)) (by rw [hE]; rfl) (by rw [hE]; rfl) (last_at S _) mc n1 (show 1 < 1000 by decide) rfl, push_set]
    rfl
  have s3 : fldS ["Reader"] fW (rdE 0 e) (M.bind (consA (M.bind (consA (rdE 3 e) (M.ret [])) sortedA) (M.ret [])) tupleD) e (S ++ [.ob "Reader" [fL, fR] [.int (L : Int), .int (R : Int)]]) = some (.nx e, S ++ [.ob "Reader" [fL, fR, fW] [.int (L : Int), .int (R : Int), .tup (us'.map dW)]]) := by
    rw [fldS_at (fs := [fL, fR]) (vs := [.int (L : Int), .int (R : Int)]) (w := .tup (us'.map dW)) (by rw [hE]; rfl) (by
      rw [hE]
      simp only [rdE_zero, rdE_succ, consA_ret, M.bind_ret, sorted_W h.ne (by omega) he, tupleD_lst]
      rfl) (last_at S _) mc n2 (show 2 < 1000 by decide) rfl, push_set]
    rfl
  have fd : fldD ["Reader"] fW (.ref S.length) (S ++ [.ob "Reader" [fL, fR, fW] [.int (L : Int), .int (R : Int), .tup (us'.map dW)]]) = some (.tup (us'.map dW), S ++ [.ob "Reader" [fL, fR, fW] [.int (L : Int), .int (R : Int), .tup (us'.map dW)]]) := by
    refine fldD_at (last_at S _) mc ?_
    have q1 : (fW == fL) = false := f2
    have q2 : (fW == fR) = false := f3
    rw [List.zip_cons_cons, List.zip_cons_cons, List.zip_cons_cons, List.lookup_cons, q1]
    show List.lookup fW ((fR, Dv.int (R : Int)) :: _) = _
    rw [List.lookup_cons, q2]
    show List.lookup fW ((fW, Dv.tup (us'.map dW)) :: _) = _
    rw [List.lookup_cons, g1]
  have s4 : fldS ["Reader"] fB (rdE 0 e) (callD 1 g_numbers_by (consA (M.bind (rdE 0 e) (fldD ["Reader"] fW)) (M.ret []))) e (S ++ [.ob "Reader" [fL, fR, fW] [.int (L : Int), .int (R : Int), .tup (us'.map dW)]]) = some (.nx e, S ++ [o]) := by
    rw [fldS_at (fs := [fL, fR, fW]) (vs := [.int (L : Int), .int (R : Int), .tup (us'.map dW)]) (w := .dct (ksF us') (vsF us')) (by rw [hE]; rfl) (by
      rw [hE, rdE_zero, M.bind_ret, call_of (n := 1) (ws := [.tup (us'.map dW)]) (cons_of fd) rfl, q_numbers us' h'.few]
      rfl) (last_at S _) mc n3 (show 3 < 1000 by decide) rfl, push_set, ho]
    rfl
  rw [← ho, ← push_set S (.ob "Reader" [] []) o]
  refine fnM_nxS (e := e) ?_ (keep_set (by rw [ho]; exact lt_rd _ L R us' _))
  rw [hs, push_set]
  unfold b_Reader___init__ c_MOST_ROOMS
  rw [seqN (e := [some (.ref S.length), some (.int (L : Int)), some (.int (R : Int)), some (.lst (us.map dW))]) (by
    simp only [rdE_zero, rdE_succ, consA_ret, callD_ret, List.length_cons, List.length_nil, if_pos, q_want_letters h.L1 h.L4, exprS_ret])]
  rw [seqN (e := [some (.ref S.length), some (.int (L : Int)), some (.int (R : Int)), some (.lst (us.map dW))]) (by
    simp only [rdE_zero, rdE_succ, consA_ret, callD_ret, List.length_cons, List.length_nil, if_pos, q_count (At.int _), cnt, M.bind_ret, asB_bl, notT_ret, orT_ret, chD_int, leD_int, a1, a2, a3, Bool.not_true, Bool.false_eq_true, if_false, ifS_ret, nxD_def])]
  rw [seqN (e := [some (.ref S.length), some (.int (L : Int)), some (.int (R : Int)), some (.lst (us.map dW))]) (by
    simp only [rdE_zero, rdE_succ, consA_ret, callD_ret, List.length_cons, List.length_nil, if_pos, q_are_ways h, M.bind_ret, asB_bl, notT_ret, Bool.not_true, Bool.false_eq_true, if_false, ifS_ret, nxD_def])]
  rw [← hE]
  show seqD (fldS ["Reader"] fL (rdE 0 e) (rdE 1 e) e) (fun env => seqD (fldS ["Reader"] fR (rdE 0 env) (rdE 2 env) env) fun env => seqD (fldS ["Reader"] fW (rdE 0 env) (M.bind (consA (M.bind (consA (rdE 3 env) (M.ret [])) sortedA) (M.ret [])) tupleD) env) fun env => fldS ["Reader"] fB (rdE 0 env) (callD 1 g_numbers_by (consA (M.bind (rdE 0 env) (fldD ["Reader"] fW)) (M.ret []))) env) (S ++ [.ob "Reader" [] []]) = _
  rw [seq_of s1, seq_of s2, seq_of s3]
  exact s4
theorem q_make {R L : Nat} {us : List Wy} (h : Ws R L us) : ∃ us' : List Wy, us'.Perm us ∧ ∀ S : Sto, M.bind (mkD "Reader" 3 g_Reader___init__ (M.ret [.int (L : Int), .int (R : Int), .lst (us.map dW)])) fzD S = some (dR R L us', S ++ [.gone]) := by
  obtain ⟨us', p, he⟩ := sort_W us
  refine ⟨us', p, fun S => ?_⟩
  have e : mkD "Reader" 3 g_Reader___init__ (M.ret [.int (L : Int), .int (R : Int), .lst (us.map dW)]) S = some (.ref S.length, S ++ [.ob "Reader" [fL, fR, fW, fB] [.int (L : Int), .int (R : Int), .tup (us'.map dW), .dct (ksF us') (vsF us')]]) := by
    unfold mkD
    rw [M.bind_ret, if_pos (show [Dv.int (L : Int), .int (R : Int), .lst (us.map dW)].length = 3 from rfl), q_init h p he S]
  have z : fzD (.ref S.length) (S ++ [MO.ob "Reader" [fL, fR, fW, fB] [.int (L : Int), .int (R : Int), .tup (us'.map dW), .dct (ksF us') (vsF us')]]) = some (dR R L us', S ++ [.gone]) := by
    have q := fz_refO (w := dR R L us') (last_at S (MO.ob "Reader" [fL, fR, fW, fB] [.int (L : Int), .int (R : Int), .tup (us'.map dW), .dct (ksF us') (vsF us')])) rfl
    rw [push_set] at q
    exact q
  rw [M.bind_of e]
  exact z
end K31
namespace K31
open PySem PySem.Spec PyProof.Rows L2 DD
variable [IW : HasW]
/-! ## what a run is -/
def wy (us : List Wy) (i : Int) : Wy := us.getD i.toNat (0, 0, 0, 0)
def okN (us : List Wy) : Dv → Bool
  | .int i => decide (0 ≤ i) && decide (i < (us.length : Int))
  | _ => false
def In (us : List Wy) (w : List Int) : Prop := ∀ i ∈ w, 0 ≤ i ∧ i < (us.length : Int)
def parts : Dv → List Dv
  | .lst ws => ws
  | .tup ws => ws
  | _ => []
def int? : Dv → Option Int
  | .int i => some i
  | _ => none
def nums (v : Dv) : List Int := (parts v).filterMap int?
def okL (us : List Wy) (lo hi : Int) (v : Dv) : Bool := (decide (lo ≤ ((parts v).length : Int)) && decide (((parts v).length : Int) ≤ hi)) && (parts v).all (okN us)
/-- a list or a tuple of plain things -/
def PL (x : Dv) : Prop := ∃ ws : List Dv, (x = .lst ws ∨ x = .tup ws) ∧ (∀ w ∈ ws, At w) ∧ ws.length ≤ 2000
theorem okN_all {us : List Wy} : ∀ {ws : List Dv}, ws.all (okN us) = true → ws = (ws.filterMap int?).map .int ∧ In us (ws.filterMap int?)
  | [], _ => ⟨rfl, fun _ z => nomatch z⟩
  | w :: ws, h => by
    rw [List.all_cons, Bool.and_eq_true] at h
    obtain ⟨h1, h2⟩ := h
    obtain ⟨e, q⟩ := okN_all h2
    cases w with
    | int i =>
      have h1 : (decide (0 ≤ i) && decide (i < (us.length : Int))) = true := h1
      rw [Bool.and_eq_true, decide_eq_true_eq, decide_eq_true_eq] at h1
      have e2 : (Dv.int i :: ws).filterMap int? = i :: ws.filterMap int? := rfl
      rw [e2]
      exact ⟨by rw [List.map_cons, ← e], fun j hj => by
        rcases List.mem_cons.mp hj with rfl | hj
        · exact h1
        · exact q j hj⟩
    | _ => cases h1
theorem okN_ints {us : List Wy} : ∀ {w : List Int}, In us w → (w.map Dv.int).all (okN us) = true
  | [], _ => rfl
  | i :: w, h => by
    have h1 := h i List.mem_cons_self
    rw [List.map_cons, List.all_cons, okN_ints fun j hj => h j (List.mem_cons_of_mem _ hj)]
    show ((decide (0 ≤ i) && decide (i < (us.length : Int))) && true) = true
    rw [decide_eq_true h1.1, decide_eq_true h1.2]; rfl
theorem filt_ints : ∀ w : List Int, (w.map Dv.int).filterMap int? = w
  | [] => rfl
  | i :: w => by
    have : (Dv.int i :: w.map Dv.int).filterMap int? = i :: (w.map Dv.int).filterMap int? := rfl
    rw [List.map_cons, this, filt_ints w]
def told (us : List Wy) : Dv → Option (List Int × List Int)
  | .tup [x, y] => if okL us 0 1000 x = true ∧ okL us 1 960 y = true then some (nums x, nums y) else none
  | _ => none
/-- the room behind -/
def jn (us : List Wy) : Int → List Int → Option Int
  | room, [] => some room
  | room, i :: w => if (wy us i).1 = room then jn us (wy us i).2.2.1 w else none
def letter (row : Sd) (p : Nat) : Int := if p < row.1.length then row.1.getD p 0 else row.2.getD ((p - row.1.length) % row.2.length) 0
def lets (us : List Wy) (row : Sd) : Nat → List Int → Bool
  | _, [] => true
  | p, i :: w => decide ((wy us i).2.1 = letter row p) && lets us row (p + 1) w
def lens (row : Sd) (h l : List Int) : Bool := decide (row.1.length ≤ h.length) && (decide ((h.length - row.1.length) % row.2.length = 0) && decide (l.length % row.2.length = 0))
def closed (us : List Wy) (h l : List Int) : Bool := decide (jn us 0 (h ++ l) = some (wy us (l.getD 0 0)).1)
def trun (us : List Wy) (v : Dv) : Bool := match told us v with
  | some (h, l) => closed us h l
  | none => false
def resB (us : List Wy) (row : Sd) (h l : List Int) : Bool := lens row h l && (lets us row 0 (h ++ l) && closed us h l)
def res (us : List Wy) (row : Sd) (v : Dv) : Bool := match told us v with
  | some (h, l) => resB us row h l
  | none => false
def slp (us : List Wy) (w : List Int) : Int := (w.map fun i => (wy us i).2.2.2).sum
def slpL (us : List Wy) (v : Dv) : Int := match told us v with
  | some (_, l) => slp us l
  | none => 0
theorem jn_last {us : List Wy} : ∀ {w : List Int} {room t : Int}, jn us room w = some t → w ≠ [] → (wy us (w.getLast?.getD 0)).2.2.1 = t
  | [], _, _, _, h => absurd rfl h
  | [i], room, t, h, _ => by
    unfold jn at h
    split at h
    · have h : some (wy us i).2.2.1 = some t := h
      exact Option.some.inj h
    · cases h
  | i :: j :: w, room, t, h, _ => by
    unfold jn at h
    split at h
    · have := jn_last h (List.cons_ne_nil j w)
      rw [List.getLast?_cons_cons]
      exact this
    · cases h
theorem jn_cons (us : List Wy) (room i : Int) (w : List Int) : jn us room (i :: w) = if (wy us i).1 = room then jn us (wy us i).2.2.1 w else none := rfl
theorem lets_cons (us : List Wy) (row : Sd) (p : Nat) (i : Int) (w : List Int) : lets us row p (i :: w) = (decide ((wy us i).2.1 = letter row p) && lets us row (p + 1) w) := rfl
theorem jn_append (us : List Wy) : ∀ (u v : List Int) (room : Int), jn us room (u ++ v) = (jn us room u).bind fun t => jn us t v
  | [], _, _ => rfl
  | i :: u, v, room => by
    rw [List.cons_append, jn_cons, jn_cons]
    split
    · exact jn_append us u v _
    · rfl
theorem lets_append (us : List Wy) (row : Sd) : ∀ (u v : List Int) (p : Nat), lets us row p (u ++ v) = (lets us row p u && lets us row (p + u.length) v)
  | [], _, _ => by simp [lets]
  | i :: u, v, p => by
    rw [List.cons_append, lets_cons, lets_cons, lets_append us row u v (p + 1), Bool.and_assoc, List.length_cons, show p + 1 + u.length = p + (u.length + 1) by omega]
/-- a told run: what it is made of -/
structure Tl (us : List Wy) (x y : Dv) (h l : List Int) : Prop where
  px : parts x = h.map .int
  py : parts y = l.map .int
  ih : In us h
  il : In us l
  l0 : l ≠ []
  h1 : h.length ≤ 1000
  l1 : l.length ≤ 960
theorem told_some {us : List Wy} {x y : Dv} {h l : List Int} (e : told us (.tup [x, y]) = some (h, l)) : Tl us x y h l := by
  have e : (if okL us 0 1000 x = true ∧ okL us 1 960 y = true then some (nums x, nums y) else none) = some (h, l) := e
  split at e
  · rename_i q
    obtain ⟨q1, q2⟩ := q
    have e := Option.some.inj e
    cases e
    unfold okL at q1 q2
    simp only [Bool.and_eq_true, decide_eq_true_eq] at q1 q2
    obtain ⟨a1, a2⟩ := okN_all q1.2
    obtain ⟨b1, b2⟩ := okN_all q2.2
    have la : (nums x).length = (parts x).length := by have := congrArg List.length a1; rw [List.length_map] at this; exact this.symm
    have lb : (nums y).length = (parts y).length := by have := congrArg List.length b1; rw [List.length_map] at this; exact this.symm
    refine ⟨a1, b1, a2, b2, fun z => ?_, by omega, by omega⟩
    rw [z, List.length_nil] at lb
    omega
  · cases e
theorem told_of {us : List Wy} {x y : Dv} {h l : List Int} (t : Tl us x y h l) : told us (.tup [x, y]) = some (h, l) := by
  have n1 : nums x = h := by unfold nums; rw [t.px, filt_ints]
  have n2 : nums y = l := by unfold nums; rw [t.py, filt_ints]
  have l0 : 0 < l.length := List.length_pos_iff.mpr t.l0
  have := t.h1; have := t.l1
  have o1 : okL us 0 1000 x = true := by
    unfold okL
    rw [t.px, okN_ints t.ih, List.length_map, decide_eq_true (by omega), decide_eq_true (by omega)]; rfl
  have o2 : okL us 1 960 y = true := by
    unfold okL
    rw [t.py, okN_ints t.il, List.length_map, decide_eq_true (by omega), decide_eq_true (by omega)]; rfl
  show (if okL us 0 1000 x = true ∧ okL us 1 960 y = true then some (nums x, nums y) else none) = _
  rw [if_pos ⟨o1, o2⟩, n1, n2]
end K31
namespace DD
open PySem PySem.Spec PyProof.Rows L2
variable [IW : HasW]
@[simp] theorem iA_tlt (ws : List Dv) : isiA [.tup ws, .tup [.ty "list", .ty "tuple"]] = M.ret (.bl true) := by
  funext S
  show (if allTy [.ty "list", .ty "tuple"] = true then (match kitAnyB "tuple" [.ty "list", .ty "tuple"] with | some r => some (Dv.bl r, S) | none => none) else none) = _
  rw [if_pos (show allTy [.ty "list", .ty "tuple"] = true from rfl), any_tuple_lt]; rfl
theorem forM_nil {g : Dv → En → M En} {b : En → M Fl} {ws : List Dv} {e : En} : forM g b ⟨ws, none⟩ [] e = M.ret (.nx e) := rfl
theorem forM_nx {g : Dv → En → M En} {b : En → M Fl} {ws : List Dv} {x : Dv} {xs : List Dv} {e e' : En} (h : M.bind (g x e) b = M.ret (.nx e')) : forM g b ⟨ws, none⟩ (x :: xs) e = forM g b ⟨ws, none⟩ xs e' := by
  funext S
  show M.bind (g x e) (fun e1 => M.bind (b e1) _) S = _
  rw [← M.bind_assoc, h]
  rfl
theorem forM_rt {g : Dv → En → M En} {b : En → M Fl} {ws : List Dv} {x w : Dv} {xs : List Dv} {e : En} (h : M.bind (g x e) b = M.ret (.rt w)) : forM g b ⟨ws, none⟩ (x :: xs) e = M.ret (.rt w) := by
  funext S
  show M.bind (g x e) (fun e1 => M.bind (b e1) _) S = _
  rw [← M.bind_assoc, h]
  rfl
end DD
namespace K31
open PySem PySem.Spec PyProof.Rows L2 DD
variable [IW : HasW]
@[simp] theorem dW_0 (w : Wy) : ixA (dW w) (.int 0) = M.ret (.int w.1) := by rw [dW_eq, ixA_tup]; rfl
@[simp] theorem dW_1 (w : Wy) : ixA (dW w) (.int 1) = M.ret (.int w.2.1) := by rw [dW_eq, ixA_tup]; rfl
@[simp] theorem dW_2 (w : Wy) : ixA (dW w) (.int 2) = M.ret (.int w.2.2.1) := by rw [dW_eq, ixA_tup]; rfl
@[simp] theorem dW_3 (w : Wy) : ixA (dW w) (.int 3) = M.ret (.int w.2.2.2) := by rw [dW_eq, ixA_tup]; rfl
theorem at_wy {us : List Wy} {i : Int} (h : 0 ≤ i ∧ i < (us.length : Int)) : atI (us.map dW) i = some (dW (wy us i)) := by
  have hl : i.toNat < us.length := by omega
  refine atI_of h.1 ?_
  rw [List.getElem?_map, List.getElem?_eq_getElem hl]
  unfold wy
  rw [List.getD_eq_getElem?_getD, List.getElem?_eq_getElem hl]
  rfl
theorem ix_wyT {us : List Wy} {i : Int} (h : 0 ≤ i ∧ i < (us.length : Int)) : ixA (.tup (us.map dW)) (.int i) = M.ret (dW (wy us i)) := by rw [ixA_tup, at_wy h, optM_some]
theorem ix_wyL {us : List Wy} {i : Int} (h : 0 ≤ i ∧ i < (us.length : Int)) : ixA (.lst (us.map dW)) (.int i) = M.ret (dW (wy us i)) := by rw [ixA_lst, at_wy h, optM_some]
theorem q_is_list {x : Dv} (h : PL x) : g_is_list [x] = M.ret (.bl true) := fnM_ret (by
  have hs : startE N_is_list.length [x] = [some x] := rfl
  rw [hs]
  unfold b_is_list
  obtain ⟨ws, rfl | rfl, _⟩ := h <;> simp only [rdE_zero, consA_ret, tupD_2, M.bind_ret, iA_llt, iA_tlt, retS_ret]) rfl
theorem len_PL {x : Dv} (h : PL x) : lenA [x] = M.ret (.int (parts x).length) := by
  obtain ⟨ws, rfl | rfl, _⟩ := h
  · exact lenA_lst ws
  · exact lenA_tup ws
theorem sr_PL {x : Dv} (h : PL x) : srD x = M.ret ⟨(parts x).map id, none⟩ := by
  rw [List.map_id]
  obtain ⟨ws, rfl | rfl, _⟩ := h <;> rfl
theorem li_PL {x : Dv} (h : PL x) : listD [x] = M.ret (.lst (parts x)) := by
  obtain ⟨ws, rfl | rfl, _, hl⟩ := h
  · exact listD_lst ws (by omega)
  · exact listD_tup ws (by omega)
theorem at_PL {x : Dv} (h : PL x) : ∀ w ∈ parts x, At w := by
  obtain ⟨ws, rfl | rfl, h, _⟩ := h <;> exact h
theorem le_PL {x : Dv} (h : PL x) : (parts x).length ≤ 2000 := by
  obtain ⟨ws, rfl | rfl, _, h⟩ := h <;> exact h
theorem okN_prog {us : List Wy} {w : Dv} (h : At w) : andV (M.ret (.bl (cnt w))) (ltD w (.int us.length)) = M.ret (.bl (okN us w)) := by
  rcases h with ⟨i, rfl⟩ | ⟨b, rfl⟩ | rfl | ⟨x, rfl⟩
  · rw [andV_ret]
    show (if decide (0 ≤ i) = true then _ else _) = M.ret (Dv.bl (decide (0 ≤ i) && decide (i < (us.length : Int))))
    by_cases c : 0 ≤ i
    · rw [decide_eq_true c, if_pos rfl, ltD_int]; rfl
    · rw [decide_eq_false c, if_neg Bool.false_ne_true]; rfl
  all_goals exact Eq.trans rfl rfl
theorem chain_le (lo n hi : Int) : M.bind (chD leD leD (M.ret (.int lo)) (M.ret (.int n)) (M.ret (.int hi))) asB = M.ret (decide (lo ≤ n) && decide (n ≤ hi)) := by
  rw [chD_int, leD_int, M.bind_ret, asB_bl, M.bind_ret]
  by_cases c : lo ≤ n
  · rw [decide_eq_true c, if_pos rfl, M.bind_ret, leD_int, M.bind_ret, asB_bl]; rfl
  · rw [decide_eq_false c, if_neg Bool.false_ne_true, M.bind_ret, asB_bl]; rfl
theorem q_ways_list {R L : Nat} {us : List Wy} {x : Dv} (h : PL x) (lo hi : Int) : g_is_ways_list [dR R L us, x, .int lo, .int hi] = M.ret (.bl (okL us lo hi x)) := fnM_ret (by
  have hs : startE N_is_ways_list.length [dR R L us, x, .int lo, .int hi] = [some (dR R L us), some x, some (.int lo), some (.int hi), none] := rfl
  rw [hs]
  unfold b_is_ways_list okL
  simp only [rdE_zero, rdE_succ, consA_ret, M.bind_ret, callD_ret, List.length_cons, List.length_nil, if_pos, q_is_list h, asB_bl, notT_ret, Bool.not_true, orT_ret, Bool.false_eq_true, if_false, len_PL h, chain_le]
  cases hc : decide (lo ≤ ((parts x).length : Int)) && decide (((parts x).length : Int) ≤ hi) with
  | false => simp only [Bool.not_false, ifS_ret, if_pos, retS_ret, seqD_rt, Bool.false_and]
  | true =>
    have := le_PL h
    simp only [Bool.not_true, ifS_ret, Bool.false_eq_true, if_false, nxD_def, seqD_nx, rdE_zero, rdE_succ, M.bind_ret, sr_PL h]
    rw [lcD_map (m := M.ret ⟨(parts x).map id, none⟩) (parts x) id (fun w => .bl (okN us w)) rfl (by omega) fun w hw => ⟨[some (dR R L us), some x, some (.int lo), some (.int hi), some w], rfl, by
      simp only [rdE_zero, rdE_succ, consA_ret, M.bind_ret, callD_ret, List.length_cons, List.length_nil, if_pos, q_count (at_PL h w hw), dR_ways, lenA_tup, List.length_map, okN_prog (at_PL h w hw)]⟩]
    have e : (parts x).map (fun w => Dv.bl (okN us w)) = ((parts x).map (okN us)).map .bl := by rw [List.map_map]; rfl
    rw [consA_ret, M.bind_ret, e, allD_bools, retS_ret, List.all_map]
    simp only [Bool.true_and]
    rfl) rfl
theorem jn_run {R L : Nat} {us : List Wy} {al : List Int} : ∀ (w : List Int) (room : Int) (a b c d e : Option Dv), In us w →
    ∃ e', forM (setE 3) (fun env => seqD (asgS (tupG 4 (gsCons (setE 4) (gsCons (setE 5) (gsCons (setE 6) (gsCons (setE 7) (gsNil)))))) (M.bind (M.bind (rdE 0 env) (fldD ["Reader"] "own_ways")) fun x => M.bind (rdE 3 env) fun y => ixA x y) env) fun env => seqD (ifS (M.bind (M.bind (rdE 4 env) fun x => M.bind (rdE 2 env) fun y => neD x y) asB) (retS (M.ret (.bl false))) (nxD env)) fun env => setS 2 (rdE 6 env) env) ⟨al.map .int, none⟩ (w.map .int) [some (dR R L us), some (.lst (al.map .int)), some (.int room), a, b, c, d, e]
      = M.ret (if (jn us room w).isSome = true then .nx e' else .rt (.bl false))
  | [], room, a, b, c, d, e, _ => ⟨_, forM_nil⟩
  | i :: w, room, a, b, c, d, e, h => by
    have hi := h i List.mem_cons_self
    have st : ∀ (k : En → M Fl), M.bind (setE 3 (.int i) [some (dR R L us), some (.lst (al.map .int)), some (.int room), a, b, c, d, e]) k = k [some (dR R L us), some (.lst (al.map .int)), some (.int room), some (.int i), b, c, d, e] := fun k => rfl
    by_cases hr : (wy us i).1 = room
    · obtain ⟨e', ih⟩ := jn_run (R := R) (L := L) (al := al) w (wy us i).2.2.1 (some (.int i)) (some (.int (wy us i).1)) (some (.int (wy us i).2.1)) (some (.int (wy us i).2.2.1)) (some (.int (wy us i).2.2.2)) fun j hj => h j (List.mem_cons_of_mem _ hj)
      refine ⟨e', ?_⟩
      rw [jn_cons, if_pos hr, ← ih, List.map_cons]
      refine forM_nx ?_
      rw [st]
      simp only [asgS, rdE_zero, rdE_succ, M.bind_ret, dR_ways, ix_wyT hi, dW_eq, tupG_tup, List.length_cons, List.length_nil, if_pos, gsCons_cons, gsNil_nil, setE_def, List.set_cons_succ, List.set_cons_zero, seqD_nx, neD_int, decide_eq_true hr, Bool.not_true, asB_bl, ifS_ret, Bool.false_eq_true, if_false, nxD_def, setS_ret]
    · refine ⟨[], ?_⟩
      rw [jn_cons, if_neg hr, List.map_cons]
      refine forM_rt ?_
      rw [st]
      simp only [asgS, rdE_zero, rdE_succ, M.bind_ret, dR_ways, ix_wyT hi, dW_eq, tupG_tup, List.length_cons, List.length_nil, if_pos, gsCons_cons, gsNil_nil, setE_def, List.set_cons_succ, List.set_cons_zero, seqD_nx, neD_int, decide_eq_false hr, Bool.not_false, asB_bl, ifS_ret, retS_ret, seqD_rt]
theorem q_joined {R L : Nat} {us : List Wy} {w : List Int} (h : In us w) : g_are_joined_ways [dR R L us, .lst (w.map .int)] = M.ret (.bl (jn us 0 w).isSome) := fnM_ret (by
  have hs : startE N_are_joined_ways.length [dR R L us, .lst (w.map .int)] = [some (dR R L us), some (.lst (w.map .int)), none, none, none, none, none, none] := rfl
  rw [hs]
  unfold b_are_joined_ways
  simp only [rdE_zero, rdE_succ, M.bind_ret, setS_ret, seqD_nx, List.set_cons_succ, List.set_cons_zero]
  have sr : srD (.lst (w.map .int)) = M.ret ⟨w.map .int, none⟩ := rfl
  obtain ⟨e', hr⟩ := jn_run (R := R) (L := L) (al := w) w 0 none none none none none h
  unfold forD
  rw [sr, M.bind_ret, hr]
  cases (jn us 0 w).isSome with
  | true => simp only [if_pos, seqD_nx, retS_ret]
  | false => simp only [Bool.false_eq_true, if_false, seqD_rt]) rfl
theorem q_slips {R L : Nat} {us : List Wy} {x : Dv} {w : List Int} (h : PL x) (e : parts x = w.map .int) (hi : In us w) : g_many_slips [dR R L us, x] = M.ret (.int (slp us w)) := fnM_ret (by
  have hs : startE N_many_slips.length [dR R L us, x] = [some (dR R L us), some x, none] := rfl
  have hl := le_PL h
  rw [e, List.length_map] at hl
  rw [hs]
  unfold b_many_slips
  simp only [rdE_zero, rdE_succ, M.bind_ret, sr_PL h, List.map_id, e]
  rw [lcD_map (m := M.ret ⟨w.map .int, none⟩) w .int (fun i => .int (wy us i).2.2.2) rfl (by omega) fun i hi' => ⟨[some (dR R L us), some x, some (.int i)], rfl, by
    simp only [rdE_zero, rdE_succ, M.bind_ret, dR_ways, ix_wyT (hi i hi'), dW_3]⟩]
  have e2 : w.map (fun i => Dv.int (wy us i).2.2.2) = (w.map fun i => (wy us i).2.2.2).map .int := by rw [List.map_map]; rfl
  rw [consA_ret, M.bind_ret, e2, sumD_lst, retS_ret]
  rfl) rfl
theorem q_told {R L : Nat} {us : List Wy} {x y : Dv} (hx : PL x) (hy : PL y) : g_is_told_run [dR R L us, .tup [x, y]] = M.ret (.bl (trun us (.tup [x, y]))) := fnM_ret (by
  have hs : startE N_is_told_run.length [dR R L us, .tup [x, y]] = [some (dR R L us), some (.tup [x, y]), none, none] := rfl
  rw [hs]
  unfold b_is_told_run c_MOST_HEAD c_MOST_LOOP
  have l2 : lenA [.tup [x, y]] = M.ret (.int 2) := rfl
  have i0 : ixA (.tup [x, y]) (.int 0) = M.ret x := by rw [ixA_tup]; rfl
  have i1 : ixA (.tup [x, y]) (.int 1) = M.ret y := by rw [ixA_tup]; rfl
  simp only [rdE_zero, rdE_succ, consA_ret, M.bind_ret, iA_tt, asB_bl, notT_ret, Bool.not_true, orT_ret, Bool.false_eq_true, if_false, l2, neD_int, decide_true, ifS_ret, nxD_def, seqD_nx, i0, i1, callD_ret, List.length_cons, List.length_nil, if_pos, q_ways_list hx, q_ways_list hy]
  have hu : trun us (.tup [x, y]) = (match told us (.tup [x, y]) with | some (h, l) => closed us h l | none => false) := rfl
  rw [hu]
  cases ht : told us (.tup [x, y]) with
  | none =>
    have bad : ¬ (okL us 0 1000 x = true ∧ okL us 1 960 y = true) := fun c => by
      have : told us (.tup [x, y]) = some (nums x, nums y) := by
        show (if okL us 0 1000 x = true ∧ okL us 1 960 y = true then some (nums x, nums y) else none) = _
        rw [if_pos c]
      rw [ht] at this; cases this
    cases h1 : okL us 0 1000 x with
    | false => simp only [Bool.not_false, if_pos, ifS_ret, retS_ret, seqD_rt]
    | true =>
      cases h2 : okL us 1 960 y with
      | false => simp only [Bool.not_false, Bool.not_true, Bool.false_eq_true, if_false, if_pos, ifS_ret, retS_ret, seqD_rt]
      | true => exact absurd ⟨h1, h2⟩ bad
  | some p =>
    obtain ⟨h, l⟩ := p
    have t := told_some ht
    have good : okL us 0 1000 x = true ∧ okL us 1 960 y = true := by
      by_cases c : okL us 0 1000 x = true ∧ okL us 1 960 y = true
      · exact c
      · have : told us (.tup [x, y]) = none := by
          show (if okL us 0 1000 x = true ∧ okL us 1 960 y = true then some (nums x, nums y) else none) = _
          rw [if_neg c]
        rw [ht] at this; cases this
    obtain ⟨k, l', hl⟩ := List.exists_cons_of_ne_nil t.l0
    have hin : In us (h ++ l) := fun i hi => by
      rcases List.mem_append.mp hi with hi | hi
      · exact t.ih i hi
      · exact t.il i hi
    have k0 : 0 ≤ k ∧ k < (us.length : Int) := t.il k (by rw [hl]; exact List.mem_cons_self)
    have iy : ixA y (.int 0) = M.ret (.int k) := by
      have py := t.py
      rw [hl] at py
      obtain ⟨ws, rfl | rfl, _⟩ := hy
      · rw [ixA_lst, show ws = (k :: l').map .int from py, atI_of (a := Dv.int k) (Int.le_refl 0) rfl, optM_some]
      · rw [ixA_tup, show ws = (k :: l').map .int from py, atI_of (a := Dv.int k) (Int.le_refl 0) rfl, optM_some]
    have ne : h ++ l ≠ [] := by rw [hl]; simp
    have ixl : ixA (.lst ((h ++ l).map .int)) (.int (-1)) = M.ret (.int ((h ++ l).getLast?.getD 0)) := by
      rw [ixA_lst]
      have hlen : 0 < (h ++ l).length := List.length_pos_iff.mpr ne
      unfold atI ixN
      rw [if_neg (by decide), List.length_map, if_pos (by omega)]
      have e : ((((h ++ l).length : Int) + -1).toNat) = (h ++ l).length - 1 := by omega
      rw [List.getLast?_eq_getElem?]
      have e2 : (h ++ l)[(h ++ l).length - 1]? = some ((h ++ l)[(h ++ l).length - 1]'(by omega)) := List.getElem?_eq_getElem _
      rw [e2]
      show optM (((h ++ l).map Dv.int)[(((h ++ l).length : Int) + -1).toNat]?) = _
      rw [e, List.getElem?_map, e2]
      rfl
    have lastIn : 0 ≤ (h ++ l).getLast?.getD 0 ∧ (h ++ l).getLast?.getD 0 < (us.length : Int) := by
      have : (h ++ l).getLast?.getD 0 ∈ h ++ l := by
        rw [List.getLast?_eq_some_getLast ne]
        exact List.getLast_mem ne
      exact hin _ this
    have ad : addD (.lst (h.map .int)) (.lst (l.map .int)) = M.ret (.lst ((h ++ l).map .int)) := by
      rw [addD_lst _ _ (by have := t.h1; have := t.l1; rw [List.length_map, List.length_map]; omega), List.map_append]
    simp only [good.1, good.2, Bool.not_true, Bool.false_eq_true, if_false, ifS_ret, seqD_nx, rdE_zero, rdE_succ, M.bind_ret, consA_ret, i0, i1, li_PL hx, li_PL hy, t.px, t.py, ad, setS_ret, List.set_cons_succ, List.set_cons_zero, dR_ways, iy, ix_wyT k0, dW_0, callD_ret, List.length_cons, List.length_nil, if_pos, q_joined hin, negD_int]
    have e1 : (-1 : Int) = -1 := rfl
    simp only [ixl, M.bind_ret, ix_wyT lastIn, dW_2, eqD_int, andV_ret]
    have hc : closed us h l = decide (jn us 0 (h ++ l) = some (wy us k).1) := by unfold closed; rw [hl]; rfl
    rw [hc]
    cases hj : jn us 0 (h ++ l) with
    | none => simp only [Option.isSome_none, Bool.false_eq_true, if_false, retS_ret]; rfl
    | some t' =>
      rw [jn_last hj ne]
      simp only [Option.isSome_some, if_pos, retS_ret, Option.some.injEq]) rfl
end K31
namespace K31
open PySem PySem.Spec PyProof.Rows L2 DD
variable [IW : HasW]
theorem dS_eq (s : Sd) : dS s = .tup [tI s.1, tI s.2] := rfl
theorem tI_at (w : List Int) {i : Nat} (h : i < w.length) : ixA (tI w) (.int (i : Nat)) = M.ret (.int (w.getD i 0)) := by
  unfold tI
  rw [ixA_tup, atI_of (a := Dv.int (w.getD i 0)) (by omega) (by
    rw [Int.toNat_natCast, List.getElem?_map, List.getElem?_eq_getElem h, List.getD_eq_getElem?_getD, List.getElem?_eq_getElem h]; rfl), optM_some]
theorem mod_nat (a b : Nat) : ((a : Int) % (b : Int)) = ((a % b : Nat) : Int) := (Int.natCast_emod a b).symm
theorem letter_body {row : Sd} (hne : row.2 ≠ []) (p : Nat) {env : En} (hk : ((tI row.1 : Dv), tI row.2) = (tI row.1, tI row.2)) : True := trivial
theorem pos_of {w : List Int} (h : w ≠ []) : 0 < w.length := List.length_pos_iff.mpr h
theorem q_letter_of {row : Sd} (hne : row.2 ≠ []) (p : Nat) : g_letter_of [dS row, .int (p : Nat)] = M.ret (.int (letter row p)) := fnM_ret (by
  have hs : startE N_letter_of.length [dS row, .int (p : Nat)] = [some (dS row), some (.int (p : Nat)), none, none] := rfl
  have h2 := pos_of hne
  rw [hs]
  unfold b_letter_of letter
  simp only [asgS, rdE_zero, rdE_succ, M.bind_ret, dS_eq, tupG_tup, List.length_cons, List.length_nil, if_pos, gsCons_cons, gsNil_nil, setE_def, List.set_cons_succ, List.set_cons_zero, seqD_nx, consA_ret, len_tI, ltD_int, asB_bl]
  by_cases c : p < row.1.length
  · rw [if_pos c, decide_eq_true (show (p : Int) < row.1.length by omega), ifE_ret, if_pos rfl, tI_at _ c, retS_ret]
  · have hm : (p - row.1.length) % row.2.length < row.2.length := Nat.mod_lt _ h2
    have e : ((p : Int) - (row.1.length : Int)) % (row.2.length : Int) = (((p - row.1.length) % row.2.length : Nat) : Int) := by
      rw [show (p : Int) - (row.1.length : Int) = ((p - row.1.length : Nat) : Int) by omega, mod_nat]
    rw [if_neg c, decide_eq_false (show ¬ (p : Int) < row.1.length by omega), ifE_ret, if_neg Bool.false_ne_true]
    simp only [subD_int, M.bind_ret, modD_int _ _ (show (0 : Int) < (row.2.length : Int) by omega), e, tI_at _ hm, retS_ret]) rfl
inductive VOk : Dv → Prop where
  | pr (x y : Dv) (hx : PL x) (hy : PL y) : VOk (.tup [x, y])
  | nil : VOk (.tup [])
  | lst (ws : List Dv) : VOk (.lst ws)
  | at_ (w : Dv) (h : At w) : VOk w
  | dct : VOk (.dct [] [])
theorem q_toldV {R L : Nat} {us : List Wy} {v : Dv} (hv : VOk v) : g_is_told_run [dR R L us, v] = M.ret (.bl (trun us v)) := by
  have hs : startE N_is_told_run.length [dR R L us, v] = [some (dR R L us), some v, none, none] := rfl
  cases hv with
  | pr x y hx hy => exact q_told hx hy
  | nil =>
    refine fnM_ret ?_ rfl
    rw [hs]
    unfold b_is_told_run
    have l0 : lenA [.tup []] = M.ret (.int 0) := rfl
    simp only [rdE_zero, rdE_succ, consA_ret, M.bind_ret, iA_tt, asB_bl, notT_ret, Bool.not_true, orT_ret, Bool.false_eq_true, if_false, l0, neD_int]
    rfl
  | lst ws =>
    refine fnM_ret ?_ rfl
    rw [hs]
    unfold b_is_told_run
    simp only [rdE_zero, rdE_succ, consA_ret, M.bind_ret, iA_lt, asB_bl, notT_ret, Bool.not_false, orT_ret, if_pos, ifS_ret, retS_ret, seqD_rt]
    rfl
  | dct =>
    refine fnM_ret ?_ rfl
    rw [hs]
    unfold b_is_told_run
    simp only [rdE_zero, rdE_succ, consA_ret, M.bind_ret, iA_dt, asB_bl, notT_ret, Bool.not_false, orT_ret, if_pos, ifS_ret, retS_ret, seqD_rt]
    rfl
  | at_ w h =>
    refine fnM_ret ?_ rfl
    rw [hs]
    unfold b_is_told_run
    rcases h with ⟨i, rfl⟩ | ⟨b, rfl⟩ | rfl | ⟨x, rfl⟩ <;>
    · simp only [rdE_zero, rdE_succ, consA_ret, M.bind_ret, iA_it, iA_bt, iA_nt, iA_st, asB_bl, notT_ret, Bool.not_false, orT_ret, if_pos, ifS_ret, retS_ret, seqD_rt]
      rfl
theorem told_pr {us : List Wy} {v : Dv} {p : List Int × List Int} (h : told us v = some p) : ∃ x y, v = .tup [x, y] := by
  unfold told at h
  split at h
  · exact ⟨_, _, rfl⟩
  · cases h
theorem lets_zip (us : List Wy) (row : Sd) : ∀ (w : List Int) (p : Nat), ((List.range' p w.length).zip w).all (fun q => decide ((wy us q.2).2.1 = letter row q.1)) = lets us row p w
  | [], p => rfl
  | i :: w, p => by
    rw [List.length_cons, List.range'_succ, List.zip_cons_cons, List.all_cons, lets_cons, lets_zip us row w (p + 1)]
theorem trun_some {us : List Wy} {v : Dv} {h l : List Int} (e : told us v = some (h, l)) : trun us v = closed us h l := by unfold trun; rw [e]
theorem trun_none {us : List Wy} {v : Dv} (e : told us v = none) : trun us v = false := by unfold trun; rw [e]
theorem res_some {us : List Wy} {row : Sd} {v : Dv} {h l : List Int} (e : told us v = some (h, l)) : res us row v = resB us row h l := by unfold res; rw [e]
theorem res_none {us : List Wy} {row : Sd} {v : Dv} (e : told us v = none) : res us row v = false := by unfold res; rw [e]
theorem res_trun {us : List Wy} {row : Sd} {v : Dv} (h : trun us v = false) : res us row v = false := by
  cases e : told us v with
  | none => exact res_none e
  | some p =>
    obtain ⟨a, b⟩ := p
    rw [trun_some e] at h
    rw [res_some e]; unfold resB
    rw [h, Bool.and_false, Bool.and_false]
theorem lens_int {row : Sd} (hne : row.2 ≠ []) {h l : List Int} {α : Type} {A B : α} :
    (if decide ((h.length : Int) - (row.1.length : Int) < 0) = true then A else if (!decide (((h.length : Int) - (row.1.length : Int)) % (row.2.length : Int) = 0)) = true then A else if (!decide ((l.length : Int) % (row.2.length : Int) = 0)) = true then A else B) = if lens row h l = true then B else A := by
  have h2 := pos_of hne
  unfold lens
  by_cases c1 : row.1.length ≤ h.length
  · have e : ((h.length : Int) - (row.1.length : Int)) % (row.2.length : Int) = (((h.length - row.1.length) % row.2.length : Nat) : Int) := by
      rw [show (h.length : Int) - (row.1.length : Int) = ((h.length - row.1.length : Nat) : Int) by omega, mod_nat]
    rw [e, mod_nat, decide_eq_false (show ¬ (h.length : Int) - (row.1.length : Int) < 0 by omega), if_neg Bool.false_ne_true, decide_eq_true c1]
    by_cases c2 : (h.length - row.1.length) % row.2.length = 0
    · rw [c2]
      by_cases c3 : l.length % row.2.length = 0
      · rw [c3]; rfl
      · rw [decide_eq_false c3, decide_eq_false (show ¬ ((l.length % row.2.length : Nat) : Int) = 0 by omega)]; rfl
    · rw [decide_eq_false c2, decide_eq_false (show ¬ (((h.length - row.1.length) % row.2.length : Nat) : Int) = 0 by omega)]; rfl
  · rw [decide_eq_true (show (h.length : Int) - (row.1.length : Int) < 0 by omega), if_pos rfl, decide_eq_false c1]; rfl
theorem tl_in {us : List Wy} {x y : Dv} {h l : List Int} (t : Tl us x y h l) : In us (h ++ l) := fun i hi => by
  rcases List.mem_append.mp hi with hi | hi
  · exact t.ih i hi
  · exact t.il i hi
theorem tl_add {us : List Wy} {x y : Dv} {h l : List Int} (t : Tl us x y h l) : addD (.lst (h.map .int)) (.lst (l.map .int)) = M.ret (.lst ((h ++ l).map .int)) := by
  rw [addD_lst _ _ (by have := t.h1; have := t.l1; rw [List.length_map, List.length_map]; omega), List.map_append]
theorem pr_of {x y : Dv} (h : VOk (.tup [x, y])) : PL x ∧ PL y := by
  cases h with
  | pr _ _ hx hy => exact ⟨hx, hy⟩
  | at_ _ h => rcases h with ⟨i, h⟩ | ⟨b, h⟩ | h | ⟨x, h⟩ <;> cases h
theorem enm_ints (w : List Int) : enmD (M.ret [.lst (w.map .int)]) = M.ret ⟨((List.range w.length).zip w).map fun p => Dv.tup [.int (p.1 : Nat), .int p.2], none⟩ := by
  rw [← enmW_map]; rfl
theorem zip_lt {w : List Int} {q : Nat × Int} (h : q ∈ (List.range w.length).zip w) : q.2 ∈ w := (List.of_mem_zip h).2
theorem q_along {R L : Nat} {us : List Wy} {row : Sd} (hne : row.2 ≠ []) {v : Dv} (hv : VOk v) : g_is_run_along [dR R L us, dS row, v] = M.ret (.bl (res us row v)) := fnM_ret (by
  have hs : startE N_is_run_along.length [dR R L us, dS row, v] = [some (dR R L us), some (dS row), some v, none, none, none, none, none, none] := rfl
  rw [hs]
  unfold b_is_run_along
  have h2 := pos_of hne
  simp only [rdE_zero, rdE_succ, consA_ret, M.bind_ret, callD_ret, List.length_cons, List.length_nil, if_pos, q_toldV hv, asB_bl, notT_ret]
  cases ht : trun us v with
  | false =>
    rw [res_trun ht]
    simp only [Bool.not_false, ifS_ret, if_pos, retS_ret, seqD_rt]
  | true =>
    cases e : told us v with
    | none => rw [trun_none e] at ht; cases ht
    | some p =>
      obtain ⟨h, l⟩ := p
      obtain ⟨x, y, rfl⟩ := told_pr e
      obtain ⟨hx, hy⟩ := pr_of hv
      have t := told_some e
      have cl : closed us h l = true := by rw [← trun_some e]; exact ht
      have i0 : ixA (.tup [x, y]) (.int 0) = M.ret x := by rw [ixA_tup]; rfl
      have i1 : ixA (.tup [x, y]) (.int 1) = M.ret y := by rw [ixA_tup]; rfl
      have lx : lenA [x] = M.ret (.int h.length) := by rw [len_PL hx, t.px, List.length_map]
      have ly : lenA [y] = M.ret (.int l.length) := by rw [len_PL hy, t.py, List.length_map]
      have m0 := fun i => modD_int i (row.2.length : Int) (by omega)
      rw [res_some e]
      unfold resB
      simp only [Bool.not_true, ifS_ret, Bool.false_eq_true, if_false, nxD_def, seqD_nx, asgS, rdE_zero, rdE_succ, M.bind_ret, dS_eq, tupG_tup, List.length_cons, List.length_nil, if_pos, gsCons_cons, gsNil_nil, setE_def, List.set_cons_succ, List.set_cons_zero, consA_ret, i0, i1, lx, ly, len_tI, subD_int, setS_ret, ltD_int, asB_bl, m0, neD_int, orT_ret]
      have hl := lens_int hne (h := h) (l := l) (A := M.ret true) (B := M.ret false)
      have hlen : (h ++ l).length ≤ 1000000 := by have := t.h1; have := t.l1; rw [List.length_append]; omega
      have key : (if decide ((h.length : Int) - (row.1.length : Int) < 0) = true then M.ret true else if (!decide (((h.length : Int) - (row.1.length : Int)) % (row.2.length : Int) = 0)) = true then M.ret true else M.ret (!decide ((l.length : Int) % (row.2.length : Int) = 0))) = M.ret (!lens row h l) := by
        have e3 : M.ret (!decide ((l.length : Int) % (row.2.length : Int) = 0)) = if (!decide ((l.length : Int) % (row.2.length : Int) = 0)) = true then M.ret true else M.ret false := by split <;> simp_all
        rw [e3, hl]
        cases lens row h l <;> rfl
      rw [key]
      cases hc : lens row h l with
      | false => simp only [Bool.not_false, ifS_ret, if_pos, retS_ret, seqD_rt, Bool.false_and]
      | true =>
        simp only [Bool.not_true, ifS_ret, Bool.false_eq_true, if_false, nxD_def, seqD_nx, rdE_zero, rdE_succ, M.bind_ret, i0, i1, consA_ret, li_PL hx, li_PL hy, t.px, t.py, tl_add t, setS_ret, List.set_cons_succ, List.set_cons_zero, enm_ints]
        rw [lcD_map (m := M.ret ⟨((List.range (h ++ l).length).zip (h ++ l)).map fun p => Dv.tup [.int (p.1 : Nat), .int p.2], none⟩) ((List.range (h ++ l).length).zip (h ++ l)) (fun p => Dv.tup [.int (p.1 : Nat), .int p.2]) (fun q => .bl (decide ((wy us q.2).2.1 = letter row q.1))) rfl (by rw [List.length_zip, List.length_range]; omega) fun q hq => ⟨_, (by
            show tupG 2 _ (Dv.tup [.int (q.1 : Nat), .int q.2]) _ = _
            rw [tupG_tup]
            simp only [List.length_cons, List.length_nil, if_pos, gsCons_cons, gsNil_nil, setE_def, M.bind_ret]; rfl), (by
            have hi := tl_in t q.2 (zip_lt hq)
            have hlt := q_letter_of (row := row) hne q.1
            rw [dS_eq] at hlt
            show M.bind (M.bind (M.bind (M.bind (M.ret (dR R L us)) (fldD ["Reader"] "own_ways")) fun x => M.bind (M.ret (.int q.2)) fun y => ixA x y) fun x => M.bind (M.ret (.int 1)) fun y => ixA x y) (fun x => M.bind (callD 2 g_letter_of (M.ret [Dv.tup [tI row.1, tI row.2], .int (q.1 : Nat)])) fun y => eqD x y) = _
            simp only [M.bind_ret, dR_ways, ix_wyT hi, dW_1, callD_ret, List.length_cons, List.length_nil, if_pos, hlt, eqD_int])⟩]
        have e2 : ((List.range (h ++ l).length).zip (h ++ l)).map (fun q => Dv.bl (decide ((wy us q.2).2.1 = letter row q.1))) = (((List.range (h ++ l).length).zip (h ++ l)).map fun q => decide ((wy us q.2).2.1 = letter row q.1)).map .bl := by rw [List.map_map]; rfl
        rw [consA_ret, M.bind_ret, e2, allD_bools, retS_ret, List.all_map]
        have e3 := lets_zip us row (h ++ l) 0
        rw [← List.range_eq_range'] at e3
        rw [cl, Bool.and_true, Bool.true_and, ← e3]
        rfl) rfl
theorem q_clean {R L : Nat} {us : List Wy} {row : Sd} (hne : row.2 ≠ []) {v : Dv} (hv : VOk v) : g_is_clean_along [dR R L us, dS row, v] = M.ret (.bl (res us row v && decide (slpL us v = 0))) := fnM_ret (by
  have hs : startE N_is_clean_along.length [dR R L us, dS row, v] = [some (dR R L us), some (dS row), some v] := rfl
  rw [hs]
  unfold b_is_clean_along
  simp only [rdE_zero, rdE_succ, consA_ret, M.bind_ret, callD_ret, List.length_cons, List.length_nil, if_pos, q_along hne hv, andV_ret]
  cases hr : res us row v with
  | false => simp only [Bool.false_eq_true, if_false, retS_ret, Bool.false_and]
  | true =>
    cases e : told us v with
    | none => rw [res_none e] at hr; cases hr
    | some p =>
      obtain ⟨h, l⟩ := p
      obtain ⟨x, y, rfl⟩ := told_pr e
      obtain ⟨hx, hy⟩ := pr_of hv
      have t := told_some e
      have i1 : ixA (.tup [x, y]) (.int 1) = M.ret y := by rw [ixA_tup]; rfl
      have es : slpL us (.tup [x, y]) = slp us l := by unfold slpL; rw [e]
      simp only [i1, M.bind_ret, consA_ret, callD_ret, List.length_cons, List.length_nil, if_pos, q_slips hy t.py t.il, eqD_int, retS_ret, es, Bool.true_and]) rfl
theorem q_is_run {R L : Nat} {us : List Wy} {row : Sd} (w1 : Wd L row.1) (w2 : Wd L row.2) (l1 : row.1.length ≤ 40) (l2 : row.2.length ≤ 40) (hne : row.2 ≠ []) {v : Dv} (hv : VOk v) : g_is_run [dR R L us, dS row, v] = M.ret (.bl (res us row v)) := fnM_ret (by
  have hs : startE N_is_run.length [dR R L us, dS row, v] = [some (dR R L us), some (dS row), some v, none] := rfl
  rw [hs]
  unfold b_is_run
  simp only [rdE_zero, rdE_succ, consA_ret, M.bind_ret, callD_ret, List.length_cons, List.length_nil, if_pos, q_wreader, setS_ret, seqD_nx, List.set_cons_succ, List.set_cons_zero, dR_letters, q_wrow w1 w2 l1 l2 hne, q_along hne hv, retS_ret]) rfl
theorem q_is_clean {R L : Nat} {us : List Wy} {row : Sd} (w1 : Wd L row.1) (w2 : Wd L row.2) (l1 : row.1.length ≤ 40) (l2 : row.2.length ≤ 40) (hne : row.2 ≠ []) {v : Dv} (hv : VOk v) : g_is_clean_run [dR R L us, dS row, v] = M.ret (.bl (res us row v && decide (slpL us v = 0))) := fnM_ret (by
  have hs : startE N_is_clean_run.length [dR R L us, dS row, v] = [some (dR R L us), some (dS row), some v, none] := rfl
  rw [hs]
  unfold b_is_clean_run
  simp only [rdE_zero, rdE_succ, consA_ret, M.bind_ret, callD_ret, List.length_cons, List.length_nil, if_pos, q_wreader, setS_ret, seqD_nx, List.set_cons_succ, List.set_cons_zero, dR_letters, q_wrow w1 w2 l1 l2 hne, q_clean hne hv, retS_ret]) rfl
theorem q_slips_of {R L : Nat} {us : List Wy} {v : Dv} (hv : VOk v) {h l : List Int} (e : told us v = some (h, l)) (ht : closed us h l = true) : g_slips_of [dR R L us, v] = M.ret (.tup [.int (slp us h), .int (slp us l)]) := fnM_ret (by
  have hs : startE N_slips_of.length [dR R L us, v] = [some (dR R L us), some v, none] := rfl
  have tr : trun us v = true := by rw [trun_some e]; exact ht
  obtain ⟨x, y, rfl⟩ := told_pr e
  obtain ⟨hx, hy⟩ := pr_of hv
  have t := told_some e
  have i0 : ixA (.tup [x, y]) (.int 0) = M.ret x := by rw [ixA_tup]; rfl
  have i1 : ixA (.tup [x, y]) (.int 1) = M.ret y := by rw [ixA_tup]; rfl
  have rs : g_run_slips [dR R L us, .tup [x, y]] = M.ret (.tup [.int (slp us h), .int (slp us l)]) := fnM_ret (by
    have hs : startE N_run_slips.length [dR R L us, .tup [x, y]] = [some (dR R L us), some (.tup [x, y])] := rfl
    rw [hs]
    unfold b_run_slips
    simp only [rdE_zero, rdE_succ, consA_ret, M.bind_ret, callD_ret, List.length_cons, List.length_nil, if_pos, i0, i1, q_slips hx t.px t.ih, q_slips hy t.py t.il, tupD_2, retS_ret]) rfl
  rw [hs]
  unfold b_slips_of
  simp only [rdE_zero, rdE_succ, consA_ret, M.bind_ret, callD_ret, List.length_cons, List.length_nil, if_pos, q_wreader, setS_ret, seqD_nx, List.set_cons_succ, List.set_cons_zero, q_toldV hv, tr, asB_bl, notT_ret, Bool.not_true, ifS_ret, Bool.false_eq_true, if_false, nxD_def, rs, retS_ret]) rfl
end K31
namespace K31
open PySem PySem.Spec PyProof.Rows L2 DD
variable [IW : HasW]
/-! ## the law's own look -/
theorem q_law_letter {row : Sd} (hne : row.2 ≠ []) (p : Nat) : g_law_letter [dS row, .int (p : Nat)] = M.ret (.int (letter row p)) := fnM_ret (by
  have hs : startE N_law_letter.length [dS row, .int (p : Nat)] = [some (dS row), some (.int (p : Nat)), none, none, none, none] := rfl
  have h2 := pos_of hne
  rw [hs]
  unfold b_law_letter letter
  simp only [asgS, rdE_zero, rdE_succ, M.bind_ret, dS_eq, tupG_tup, List.length_cons, List.length_nil, if_pos, gsCons_cons, gsNil_nil, setE_def, List.set_cons_succ, List.set_cons_zero, seqD_nx, consA_ret, len_tI, parS_ret, ltD_int, asB_bl]
  by_cases c : p < row.1.length
  · rw [if_pos c, decide_eq_true (show (p : Int) < row.1.length by omega), ifE_ret, if_pos rfl, tI_at _ c, retS_ret]
  · have hm : (p - row.1.length) % row.2.length < row.2.length := Nat.mod_lt _ h2
    have e : ((p : Int) - (row.1.length : Int)) % (row.2.length : Int) = (((p - row.1.length) % row.2.length : Nat) : Int) := by
      rw [show (p : Int) - (row.1.length : Int) = ((p - row.1.length : Nat) : Int) by omega, mod_nat]
    rw [if_neg c, decide_eq_false (show ¬ (p : Int) < row.1.length by omega), ifE_ret, if_neg Bool.false_ne_true]
    simp only [subD_int, M.bind_ret, consA_ret, intD_int, modD_int _ _ (show (0 : Int) < (row.2.length : Int) by omega), e, tI_at _ hm, retS_ret]) rfl
theorem okN_law {us : List Wy} {w : Dv} (h : At w) : andV (M.bind (M.ret [w, .ty "int"]) isiA) (andV (notV (M.bind (M.ret [w, .ty "bool"]) isiA)) (chD leD ltD (M.ret (.int 0)) (M.ret w) (M.ret (.int us.length)))) = M.ret (.bl (okN us w)) := by
  rcases h with ⟨i, rfl⟩ | ⟨b, rfl⟩ | rfl | ⟨x, rfl⟩
  · simp only [M.bind_ret, iA_ii, iA_ib, andV_ret, if_pos, notV_ret, Bool.not_false, chD_int, leD_int, asB_bl]
    show _ = M.ret (Dv.bl (decide (0 ≤ i) && decide (i < (us.length : Int))))
    by_cases c : 0 ≤ i
    · rw [decide_eq_true c, if_pos rfl, ltD_int]; rfl
    · rw [decide_eq_false c, if_neg Bool.false_ne_true]; rfl
  · simp only [M.bind_ret, iA_bi, iA_bb, andV_ret, if_pos, notV_ret, Bool.not_true, Bool.false_eq_true, if_false]; rfl
  · simp only [M.bind_ret, iA_ni, andV_ret, Bool.false_eq_true, if_false]; rfl
  · simp only [M.bind_ret, iA_si, andV_ret, Bool.false_eq_true, if_false]; rfl
theorem isi_PL {x : Dv} (h : PL x) : isiA [x, .tup [.ty "list", .ty "tuple"]] = M.ret (.bl true) := by
  obtain ⟨ws, rfl | rfl, _⟩ := h
  · exact iA_llt ws
  · exact iA_tlt ws
theorem q_law_list {us : List Wy} {x : Dv} (h : PL x) (lo hi : Int) : g_law_is_list [x, .lst (us.map dW), .int lo, .int hi] = M.ret (.bl (okL us lo hi x)) := fnM_ret (by
  have hs : startE N_law_is_list.length [x, .lst (us.map dW), .int lo, .int hi] = [some x, some (.lst (us.map dW)), some (.int lo), some (.int hi), none] := rfl
  rw [hs]
  unfold b_law_is_list okL
  simp only [rdE_zero, rdE_succ, consA_ret, tupD_2, M.bind_ret, isi_PL h, asB_bl, notT_ret, Bool.not_true, orT_ret, Bool.false_eq_true, if_false, len_PL h, chain_le]
  cases hc : decide (lo ≤ ((parts x).length : Int)) && decide (((parts x).length : Int) ≤ hi) with
  | false => simp only [Bool.not_false, ifS_ret, if_pos, retS_ret, seqD_rt, Bool.false_and]
  | true =>
    have := le_PL h
    simp only [Bool.not_true, ifS_ret, Bool.false_eq_true, if_false, nxD_def, seqD_nx, rdE_zero, rdE_succ, M.bind_ret, sr_PL h]
    rw [lcD_map (m := M.ret ⟨(parts x).map id, none⟩) (parts x) id (fun w => .bl (okN us w)) rfl (by omega) fun w hw => ⟨[some x, some (.lst (us.map dW)), some (.int lo), some (.int hi), some w], rfl, by
      have e := okN_law (us := us) (at_PL h w hw)
      simp only [rdE_zero, rdE_succ, consA_ret, lenA_lst, List.length_map]
      simp only [M.bind_ret] at e ⊢
      simp only [lenA_lst, List.length_map]
      exact e⟩]
    have e : (parts x).map (fun w => Dv.bl (okN us w)) = ((parts x).map (okN us)).map .bl := by rw [List.map_map]; rfl
    rw [consA_ret, M.bind_ret, e, allD_bools, retS_ret, List.all_map]
    simp only [Bool.true_and]
    rfl) rfl
/-- both at once -/
def lw (us : List Wy) (row : Sd) : Int → Nat → List Int → Option Int
  | room, _, [] => some room
  | room, p, i :: w => if (wy us i).1 = room ∧ (wy us i).2.1 = letter row p then lw us row (wy us i).2.2.1 (p + 1) w else none
theorem lw_cons (us : List Wy) (row : Sd) (room : Int) (p : Nat) (i : Int) (w : List Int) : lw us row room p (i :: w) = if (wy us i).1 = room ∧ (wy us i).2.1 = letter row p then lw us row (wy us i).2.2.1 (p + 1) w else none := rfl
theorem lw_eq (us : List Wy) (row : Sd) : ∀ (w : List Int) (room : Int) (p : Nat), lw us row room p w = if lets us row p w = true then jn us room w else none
  | [], room, p => rfl
  | i :: w, room, p => by
    rw [lw_cons, lets_cons, jn_cons, lw_eq us row w]
    by_cases c1 : (wy us i).1 = room <;> by_cases c2 : (wy us i).2.1 = letter row p
    · rw [if_pos ⟨c1, c2⟩, if_pos c1, decide_eq_true c2, Bool.true_and]
    · rw [if_neg fun z => c2 z.2, decide_eq_false c2, Bool.false_and, if_neg Bool.false_ne_true]
    · rw [if_neg fun z => c1 z.1, if_neg c1]; split <;> rfl
    · rw [if_neg fun z => c1 z.1, if_neg c1]; split <;> rfl
def eL (us : List Wy) (row : Sd) (v h l : Dv) (s : Int) (room : Int) (a b : Option Dv) : En := [some (.lst (us.map dW)), some (dS row), some v, some h, some l, some (.int s), some (.int room), a, b]
theorem lw_run {us : List Wy} {row : Sd} (hne : row.2 ≠ []) {v hh ll : Dv} {s : Int} {all : List Dv} : ∀ (w : List Int) (room : Int) (p : Nat) (a b : Option Dv), In us w →
    ∃ a' b', forM (tupG 2 (gsCons (setE 7) (gsCons (setE 8) (gsNil)))) (fun env => seqD (ifS (orT (M.bind (M.bind (M.bind (M.bind (rdE 0 env) fun x => M.bind (rdE 8 env) fun y => ixA x y) fun x => M.bind (M.ret (.int 0)) fun y => ixA x y) fun x => M.bind (rdE 6 env) fun y => neD x y) asB) (M.bind (M.bind (M.bind (M.bind (rdE 0 env) fun x => M.bind (rdE 8 env) fun y => ixA x y) fun x => M.bind (M.ret (.int 1)) fun y => ixA x y) fun x => M.bind (callD 2 g_law_letter (consA (rdE 1 env) (consA (rdE 7 env) (M.ret [])))) fun y => neD x y) asB)) (retS (M.ret (.bl false))) (nxD env)) fun env => setS 6 (M.bind (M.bind (rdE 0 env) fun x => M.bind (rdE 8 env) fun y => ixA x y) fun x => M.bind (M.ret (.int 2)) fun y => ixA x y) env) ⟨all, none⟩ (((List.range' p w.length).zip w).map fun q => Dv.tup [.int (q.1 : Nat), .int q.2]) (eL us row v hh ll s room a b)
      = M.ret (match lw us row room p w with | some t => .nx (eL us row v hh ll s t a' b') | none => .rt (.bl false))
  | [], room, p, a, b, _ => ⟨a, b, forM_nil⟩
  | i :: w, room, p, a, b, h => by
    have hi := h i List.mem_cons_self
    have ql := q_law_letter (row := row) hne p
    have st : ∀ (k : En → M Fl), M.bind (tupG 2 (gsCons (setE 7) (gsCons (setE 8) (gsNil))) (Dv.tup [.int (p : Nat), .int i]) (eL us row v hh ll s room a b)) k = k (eL us row v hh ll s room (some (.int (p : Nat))) (some (.int i))) := fun k => rfl
    rw [List.length_cons, List.range'_succ, List.zip_cons_cons, List.map_cons, lw_cons]
    by_cases c1 : (wy us i).1 = room
    · by_cases c2 : (wy us i).2.1 = letter row p
      · obtain ⟨a', b', ih⟩ := lw_run hne (v := v) (hh := hh) (ll := ll) (s := s) (all := all) w (wy us i).2.2.1 (p + 1) (some (.int (p : Nat))) (some (.int i)) fun j hj => h j (List.mem_cons_of_mem _ hj)
        refine ⟨a', b', ?_⟩
        rw [if_pos ⟨c1, c2⟩, ← ih]
        refine forM_nx ?_
        rw [st]
        unfold eL
        simp only [rdE_zero, rdE_succ, M.bind_ret, ix_wyL hi, dW_0, dW_1, dW_2, neD_int, decide_eq_true c1, Bool.not_true, asB_bl, orT_ret, Bool.false_eq_true, if_false, consA_ret, callD_ret, List.length_cons, List.length_nil, if_pos, ql, decide_eq_true c2, ifS_ret, nxD_def, seqD_nx, setS_ret, List.set_cons_succ, List.set_cons_zero]
      · refine ⟨a, b, ?_⟩
        rw [if_neg fun z => c2 z.2]
        refine forM_rt ?_
        rw [st]
        unfold eL
        simp only [rdE_zero, rdE_succ, M.bind_ret, ix_wyL hi, dW_0, dW_1, dW_2, neD_int, decide_eq_true c1, Bool.not_true, asB_bl, orT_ret, Bool.false_eq_true, if_false, consA_ret, callD_ret, List.length_cons, List.length_nil, if_pos, ql, decide_eq_false c2, Bool.not_false, ifS_ret, retS_ret, seqD_rt]
    · refine ⟨a, b, ?_⟩
      rw [if_neg fun z => c1 z.1]
      refine forM_rt ?_
      rw [st]
      unfold eL
      simp only [rdE_zero, rdE_succ, M.bind_ret, ix_wyL hi, dW_0, neD_int, decide_eq_false c1, Bool.not_false, asB_bl, orT_ret, if_pos, ifS_ret, retS_ret, seqD_rt]
theorem lens_nat {row : Sd} (hne : row.2 ≠ []) {h l : List Int} :
    (if decide ((h.length : Int) < (row.1.length : Int)) = true then M.ret true else if (!decide (((h.length : Int) - (row.1.length : Int)) % (row.2.length : Int) = 0)) = true then M.ret true else M.ret (!decide ((l.length : Int) % (row.2.length : Int) = 0))) = M.ret (!lens row h l) := by
  have e := lens_int hne (h := h) (l := l) (A := M.ret true) (B := M.ret false)
  have e1 : decide ((h.length : Int) < (row.1.length : Int)) = decide ((h.length : Int) - (row.1.length : Int) < 0) := decide_eq_decide.mpr ⟨fun z => by omega, fun z => by omega⟩
  have e3 : M.ret (!decide ((l.length : Int) % (row.2.length : Int) = 0)) = if (!decide ((l.length : Int) % (row.2.length : Int) = 0)) = true then M.ret true else M.ret false := by split <;> simp_all
  rw [e1, e3, e]
  cases lens row h l <;> rfl
theorem q_law_run {us : List Wy} {row : Sd} (hne : row.2 ≠ []) {v : Dv} (hv : VOk v) : g_law_is_run [.lst (us.map dW), dS row, v] = M.ret (.bl (res us row v)) := by
  have hs : startE N_law_is_run.length [.lst (us.map dW), dS row, v] = [some (.lst (us.map dW)), some (dS row), some v, none, none, none, none, none, none] := rfl
  have h2 := pos_of hne
  cases hv with
  | nil =>
    refine fnM_ret ?_ rfl
    rw [hs]
    unfold b_law_is_run
    have l0 : lenA [.tup []] = M.ret (.int 0) := rfl
    simp only [rdE_zero, rdE_succ, consA_ret, M.bind_ret, iA_tt, asB_bl, notT_ret, Bool.not_true, orT_ret, Bool.false_eq_true, if_false, l0, neD_int]
    rfl
  | lst ws =>
    refine fnM_ret ?_ rfl
    rw [hs]
    unfold b_law_is_run
    simp only [rdE_zero, rdE_succ, consA_ret, M.bind_ret, iA_lt, asB_bl, notT_ret, Bool.not_false, orT_ret, if_pos, ifS_ret, retS_ret, seqD_rt]
    rfl
  | dct =>
    refine fnM_ret ?_ rfl
    rw [hs]
    unfold b_law_is_run
    simp only [rdE_zero, rdE_succ, consA_ret, M.bind_ret, iA_dt, asB_bl, notT_ret, Bool.not_false, orT_ret, if_pos, ifS_ret, retS_ret, seqD_rt]
    rfl
  | at_ w h =>
    refine fnM_ret ?_ rfl
    rw [hs]
    unfold b_law_is_run
    rcases h with ⟨i, rfl⟩ | ⟨b, rfl⟩ | rfl | ⟨x, rfl⟩ <;>
    · simp only [rdE_zero, rdE_succ, consA_ret, M.bind_ret, iA_it, iA_bt, iA_nt, iA_st, asB_bl, notT_ret, Bool.not_false, orT_ret, if_pos, ifS_ret, retS_ret, seqD_rt]
      rfl
  | pr x y hx hy =>
    refine fnM_ret ?_ rfl
    rw [hs]
    unfold b_law_is_run
    have l2 : lenA [.tup [x, y]] = M.ret (.int 2) := rfl
    have i0 : ixA (.tup [x, y]) (.int 0) = M.ret x := by rw [ixA_tup]; rfl
    have i1 : ixA (.tup [x, y]) (.int 1) = M.ret y := by rw [ixA_tup]; rfl
    simp only [rdE_zero, rdE_succ, consA_ret, M.bind_ret, iA_tt, asB_bl, notT_ret, Bool.not_true, orT_ret, Bool.false_eq_true, if_false, l2, neD_int, decide_true, ifS_ret, nxD_def, seqD_nx, i0, i1, callD_ret, List.length_cons, List.length_nil, if_pos, q_law_list hx, q_law_list hy]
    by_cases good : okL us 0 1000 x = true ∧ okL us 1 960 y = true
    · have ht : told us (.tup [x, y]) = some (nums x, nums y) := by
        show (if okL us 0 1000 x = true ∧ okL us 1 960 y = true then some (nums x, nums y) else none) = _
        rw [if_pos good]
      have t := told_some ht
      rw [res_some ht]
      unfold resB
      revert t
      generalize nums x = h
      generalize nums y = l
      intro t
      obtain ⟨k, l', hl⟩ := List.exists_cons_of_ne_nil t.l0
      have k0 : 0 ≤ k ∧ k < (us.length : Int) := t.il k (by rw [hl]; exact List.mem_cons_self)
      have iy : ixA (.lst (l.map .int)) (.int 0) = M.ret (.int k) := by
        rw [ixA_lst, hl, atI_of (a := Dv.int k) (Int.le_refl 0) rfl, optM_some]
      have lh : lenA [.lst (h.map .int)] = M.ret (.int h.length) := by rw [lenA_lst, List.length_map]
      have ll : lenA [.lst (l.map .int)] = M.ret (.int l.length) := by rw [lenA_lst, List.length_map]
      have m0 := fun i => modD_int i (row.2.length : Int) (by omega)
      simp only [good.1, good.2, Bool.not_true, Bool.false_eq_true, if_false, ifS_ret, seqD_nx, rdE_zero, rdE_succ, M.bind_ret, consA_ret, i0, i1, li_PL hx, li_PL hy, t.px, t.py, dS_0, dS_1, len_tI, parS3_ret, List.set_cons_succ, List.set_cons_zero, lh, ll, ltD_int, asB_bl, subD_int, intD_int, m0, neD_int, orT_ret, lens_nat hne]
      cases hc : lens row h l with
      | false => simp only [Bool.not_false, ifS_ret, if_pos, retS_ret, seqD_rt, Bool.false_and]
      | true =>
        simp only [Bool.not_true, ifS_ret, Bool.false_eq_true, if_false, nxD_def, seqD_nx, rdE_zero, rdE_succ, M.bind_ret, setS_ret, List.set_cons_succ, List.set_cons_zero, tl_add t, consA_ret, enm_ints]
        obtain ⟨a', b', hr⟩ := lw_run (us := us) hne (v := .tup [x, y]) (hh := .lst (h.map .int)) (ll := .lst (l.map .int)) (s := (row.2.length : Int)) (all := ((List.range (h ++ l).length).zip (h ++ l)).map fun q => Dv.tup [.int (q.1 : Nat), .int q.2]) (h ++ l) 0 0 none none (tl_in t)
        rw [← List.range_eq_range'] at hr
        unfold forD
        rw [M.bind_ret]
        unfold eL at hr
        simp only [M.bind_ret, nxD_def] at hr
        refine (congrArg (fun m => seqD m _) hr).trans ?_
        rw [lw_eq]
        have hcl : closed us h l = decide (jn us 0 (h ++ l) = some (wy us k).1) := by unfold closed; rw [hl]; rfl
        rw [hcl, Bool.true_and]
        cases hlt : lets us row 0 (h ++ l) with
        | false =>
          rw [if_neg Bool.false_ne_true]
          rfl
        | true =>
          rw [if_pos rfl]
          cases hj : jn us 0 (h ++ l) with
          | none => rfl
          | some t' =>
            simp only [seqD_nx, rdE_zero, rdE_succ, M.bind_ret, iy, ix_wyL k0, dW_0, eqD_int, retS_ret, Bool.true_and, Option.some.injEq]
    · have ht : told us (.tup [x, y]) = none := by
        show (if okL us 0 1000 x = true ∧ okL us 1 960 y = true then some (nums x, nums y) else none) = _
        rw [if_neg good]
      rw [res_none ht]
      cases h1 : okL us 0 1000 x with
      | false => simp only [Bool.not_false, if_pos, ifS_ret, retS_ret, seqD_rt]
      | true =>
        cases h2 : okL us 1 960 y with
        | false => simp only [Bool.not_false, Bool.not_true, Bool.false_eq_true, if_false, if_pos, ifS_ret, retS_ret, seqD_rt]
        | true => exact absurd ⟨h1, h2⟩ good
end K31
namespace K31
open PySem PySem.Spec PyProof.Rows L2 DD
variable [IW : HasW]
def isInt (k : Int) (w : Dv) : Prop := ∃ d : Nat, w = .int (d : Int) ∧ (d : Int) < k
theorem pA0 {n : Nat} {S : Sto} {a b : Int} (h : S[n]? = some (.lst [.int a, .int b])) : ixA (.ref n) (.int 0) S = some (.int a, S) := by rw [ixA_ref h]; exact pot_ix0 h
theorem pA1 {n : Nat} {S : Sto} {a b : Int} (h : S[n]? = some (.lst [.int a, .int b])) : ixA (.ref n) (.int 1) S = some (.int b, S) := by rw [ixA_ref h]; exact pot_ix1 h
theorem pP0 {n : Nat} {S : Sto} {a b z : Int} (h : S[n]? = some (.lst [.int a, .int b])) : putA (.ref n) (.int 0) (.int z) S = some ((), S.set n (.lst [.int z, .int b])) := by rw [putA_lst h]; exact pot_put0 h
theorem pP1 {n : Nat} {S : Sto} {a b z : Int} (h : S[n]? = some (.lst [.int a, .int b])) : putA (.ref n) (.int 1) (.int z) S = some ((), S.set n (.lst [.int a, .int z])) := by rw [putA_lst h]; exact pot_put1 h
theorem draw {n : Nat} {k : Int} (h0 : 0 < k) (h1 : k ≤ 10 ^ 12) : Rn n (g_law_draw [.ref n, .int k]) (isInt k) := Rn.fn (by
  rintro S ⟨a, b, hS, hb0, hb1⟩
  have hk : k < 2 ^ 64 := by omega
  have hs : startE N_law_draw.length [.ref n, .int k] = [some (.ref n), some (.int k), none] := rfl
  rw [hs]
  by_cases c : 0 < a
  · have hd0 := Int.emod_nonneg a (show k ≠ 0 by omega)
    refine ⟨.rt (.int (a % k)), S.set n (.lst [.int (a / k), .int b]), ?_, ⟨_, rfl, rfl, (a % k).toNat, by rw [Int.toNat_of_nonneg hd0], by rw [Int.toNat_of_nonneg hd0]; exact Int.emod_lt_of_pos a h0⟩, ⟨_, _, set_at hS, hb0, hb1⟩, set_stp⟩
    unfold b_law_draw
    simp only [seqD, ifS, rdE_zero, rdE_succ, M.bind_ret, M.bind_assoc]
    rw [M.bind_of (pA0 hS)]
    simp only [gtD_int, M.bind_ret, asB_bl, decide_eq_true c, if_pos, asgS, rdE_zero, rdE_succ, consA_def, M.bind_assoc]
    rw [M.bind_of (pA0 hS)]
    simp only [M.bind_ret, divmodD_int _ _ h0 hk, tupG_tup, List.length_cons, List.length_nil, if_pos, gsCons_cons, M.bind_assoc, rdE_zero, rdE_succ]
    rw [M.bind_of (pP0 hS)]
    simp only [M.bind_ret, setE_def, gsCons_cons, gsNil_nil, M.bind_assoc, List.set_cons_succ, List.set_cons_zero, retS, rdE_zero, rdE_succ]
    rfl
  · have b0 : (0 : Int) < 2147483647 := by decide
    have b2 : (0 : Int) < 13 := by decide
    obtain ⟨z, hz⟩ : ∃ z, z = b * 16807 % 2147483647 := ⟨_, rfl⟩
    have z0 : 0 ≤ z := by omega
    have z1 : z < 2147483647 := by omega
    obtain ⟨y, hy⟩ : ∃ y, y = z / 13 := ⟨_, rfl⟩
    have hd0 := Int.emod_nonneg y (show k ≠ 0 by omega)
    have hS' := set_at (p := .lst [.int a, .int z]) hS
    refine ⟨.rt (.int (y % k)), S.set n (.lst [.int a, .int z]), ?_, ⟨_, rfl, rfl, (y % k).toNat, by rw [Int.toNat_of_nonneg hd0], by rw [Int.toNat_of_nonneg hd0]; exact Int.emod_lt_of_pos y h0⟩, ⟨_, _, hS', by omega, by omega⟩, set_stp⟩
    unfold b_law_draw
    simp only [seqD, ifS, rdE_zero, rdE_succ, M.bind_ret, M.bind_assoc]
    rw [M.bind_of (pA0 hS)]
    simp only [gtD_int, M.bind_ret, asB_bl, decide_eq_false c, Bool.false_eq_true, if_false, nxD_def, asgS, rdE_zero, rdE_succ, consA_def, M.bind_assoc]
    rw [M.bind_of (pA1 hS)]
    simp only [M.bind_ret, mulD_small b 16807 (by omega) (by decide), addD_int, intD_int, modD_int _ _ b0, ← hz]
    rw [M.bind_of (pP1 hS)]
    simp only [M.bind_ret, retS, rdE_zero, rdE_succ, M.bind_assoc]
    rw [M.bind_of (pA1 hS')]
    simp only [M.bind_ret, intD_int, fdivD_int _ _ b2 (by decide), ← hy, modD_int _ _ h0]
    rfl)
theorem pick {n : Nat} {ws : List Dv} (h0 : 0 < ws.length) (h1 : ws.length ≤ 1000) (hp : ∀ x ∈ ws, x.pu = true) : Rn n (g_law_pick [.ref n, .lst ws]) fun v => v ∈ ws := Rn.fn (by
  have hs : startE N_law_pick.length [.ref n, .lst ws] = [some (.ref n), some (.lst ws)] := rfl
  rw [hs]
  unfold b_law_pick
  simp only [rdE_zero, rdE_succ, M.bind_ret, consA_ret, lenA_lst, callD_ret, List.length_cons, List.length_nil, if_pos]
  refine Rn.rets (Rn.bind (draw (by omega) (by omega)) fun v ⟨d, e, hd⟩ => ?_)
  subst e
  have hd' : d < ws.length := by omega
  rw [ixA_lst, atI_of (a := ws[d]) (by omega) (by rw [Int.toNat_natCast, List.getElem?_eq_getElem hd'])]
  exact .ret ⟨_, rfl, hp _ (List.getElem_mem hd'), List.getElem_mem hd'⟩)
/-- .append(..) of what is drawn -/
theorem app_step {n q : Nat} {m : M (List Dv)} {P : Dv → Prop} (hr : Rn n m fun ws => ∃ w, ws = [w] ∧ P w) {S : Sto} (hp : Pot n S) {vs : List Dv} (hq : S[q]? = some (.lst vs)) (hne : q ≠ n) (hl : vs.length < 1000000) :
    ∃ w S', P w ∧ bmD appD (M.ret (.ref q)) m S = some (.non, S') ∧ Pot n S' ∧ S'[q]? = some (.lst (vs ++ [w])) ∧ (∀ k, k < S.length → k ≠ n → k ≠ q → S'[k]? = S[k]?) ∧ S.length ≤ S'.length := by
  have hql := (List.getElem?_eq_some_iff.mp hq).1
  obtain ⟨ws, S1, h1, ⟨w, rfl, hw⟩, hp1, st⟩ := hr S hp
  have hq1 : S1[q]? = some (.lst vs) := by rw [st.same q hql hne]; exact hq
  refine ⟨w, S1.set q (.lst (vs ++ [w])), hw, bm_appS rfl hq h1 hq1 hl, ?_, ?_, fun k hk hn hkq => ?_, by rw [List.length_set]; exact st.le⟩
  · obtain ⟨a, b, e, r⟩ := hp1
    exact ⟨a, b, by rw [List.getElem?_set_ne hne]; exact e, r⟩
  · rw [List.getElem?_set_self (List.getElem?_eq_some_iff.mp hq1).1]
  · rw [List.getElem?_set_ne (Ne.symm hkq)]
    exact st.same k hk hn
/-- as it was at the begin, but for the pot -/
structure Old (n : Nat) (S0 S : Sto) : Prop where
  pot : Pot n S
  len : S0.length ≤ S.length
  same : ∀ k, k < S0.length → k ≠ n → S[k]? = S0[k]?
theorem Old.step {n q : Nat} {S0 S S' : Sto} (o : Old n S0 S) (hq : S0.length ≤ q) (hp : Pot n S') (hs : ∀ k, k < S.length → k ≠ n → k ≠ q → S'[k]? = S[k]?) (hl : S.length ≤ S'.length) : Old n S0 S' :=
  ⟨hp, Nat.le_trans o.len hl, fun k hk hn => by
    rw [hs k (by have := o.len; omega) hn (by omega)]
    exact o.same k hk hn⟩
theorem Old.draw {n : Nat} {S0 S S' : Sto} (o : Old n S0 S) (hp : Pot n S') (st : Stp n S S') : Old n S0 S' :=
  ⟨hp, Nat.le_trans o.len st.le, fun k hk hn => by
    rw [st.same k (by have := o.len; omega) hn]
    exact o.same k hk hn⟩
theorem old_end {N n : Nat} {m : En → M Fl} {ws : List Dv} {S0 S : Sto} {w : Dv} (h : m (startE N ws) S0 = some (.rt w, S)) (hp : w.pu = true) (o : Old n S0 S) (h0 : Pot n S0) : ∃ S', fnM N m ws S0 = some (w, S') ∧ Pot n S' ∧ Stp n S0 S' := by
  have hl := h0.lt
  obtain ⟨a, b, e, r⟩ := o.pot
  have hk : KeepOk S0 S := by
    intro j us hj hu
    by_cases c : j = n
    · subst c
      rw [e] at hu; cases hu
      exact .inr rfl
    · rw [o.same j hj c] at hu
      exact .inl hu
  refine ⟨S.take S0.length, fnM_of h (outW_pu hp) hk, ⟨a, b, by rw [List.getElem?_take, if_pos hl]; exact e, r⟩, by rw [List.length_take]; have := o.len; omega, fun k hk' hn => by rw [List.getElem?_take, if_pos hk']; exact o.same k hk' hn⟩
theorem arg_draw {n : Nat} {k : Int} (h0 : 0 < k) (h1 : k ≤ 10 ^ 12) : Rn n (consA (callD 2 g_law_draw (M.ret [.ref n, .int k])) (M.ret [])) fun ws => ∃ w, ws = [w] ∧ isInt k w := by
  rw [callD_ret, if_pos (show [Dv.ref n, .int k].length = 2 from rfl)]
  exact Rn.cons (P := isInt k) (Q := fun ws => ws = []) (draw h0 h1) (.ret rfl) fun w ws hw hws => ⟨w, by rw [hws], hw⟩

theorem pickR {n q : Nat} {ws : List Dv} (h0 : 0 < ws.length) (h1 : ws.length ≤ 1000) (hp : ∀ x ∈ ws, x.pu = true) (hq : q ≠ n) {S : Sto} (hS : Pot n S) (hs : S[q]? = some (.lst ws)) : ∃ v S', g_law_pick [.ref n, .ref q] S = some (v, S') ∧ v ∈ ws ∧ Pot n S' ∧ Stp n S S' := by
  have hst : startE N_law_pick.length [.ref n, .ref q] = [some (.ref n), some (.ref q)] := rfl
  obtain ⟨v, S1, e1, ⟨d, rfl, hd⟩, p1, st1⟩ := draw (n := n) (k := (ws.length : Int)) (by omega) (by omega) S hS
  have hq1 : S1[q]? = some (.lst ws) := by rw [st1.same q (List.getElem?_eq_some_iff.mp hs).1 hq]; exact hs
  have hd' : d < ws.length := by omega
  have ei : ixA (.ref q) (.int (d : Int)) S1 = some (ws[d], S1) := by
    rw [ixA_ref hq1]
    show (match sqV S1 (.ref q) with | some ws => (match atI ws (d : Int) with | some w => some (w, S1) | none => none) | none => none) = _
    rw [show sqV S1 (.ref q) = some ws from stL_of hq1]
    show (match atI ws (d : Int) with | some w => some (w, S1) | none => none) = _
    rw [atI_of (a := ws[d]) (by omega) (by rw [Int.toNat_natCast, List.getElem?_eq_getElem hd'])]
  have o1 : Old n S S1 := ⟨p1, st1.le, st1.same⟩
  obtain ⟨S2, g1, g2, g3⟩ := old_end (N := N_law_pick.length) (m := b_law_pick) (ws := [.ref n, .ref q]) (S0 := S) (S := S1) (w := ws[d]) (by
    rw [hst]
    unfold b_law_pick
    refine ret_of ?_
    simp only [rdE_zero, rdE_succ, M.bind_ret, consA_ret]
    rw [M.bind_of ((call_of (n := 2) (S' := S) (ws := [.ref n, .int ws.length]) (consR (cons_of (lenA_ref hs))) rfl).trans e1)]
    exact ei) (hp _ (List.getElem_mem hd')) o1 hS
  exact ⟨_, S2, g1, List.getElem_mem hd', g2, g3⟩
/-! ## letters, rows -/
theorem rn_tup {n : Nat} {m : M (List Dv)} {P : List Dv → Prop} {Q : Dv → Prop} (h : Rn n m P) (q : ∀ ws, P ws → ws.length ≤ 1000000 ∧ Q (.tup ws)) : Rn n (tupD m) Q :=
  Rn.bind h fun ws hws => by
    intro S hS
    exact ⟨.tup ws, S, by show (if ws.length ≤ sizeLine then some (Dv.tup ws, S) else none) = _; rw [if_pos (line_ge (q ws hws).1)], (q ws hws).2, hS, Stp.refl n S⟩
theorem rngN (n : Nat) (h : n ≤ 1000000) (S : Sto) : rng1 (M.ret [.int (n : Int)]) S = some (⟨(List.range n).map fun i => .int (i : Nat), none⟩, S) := by rw [rng1_nat n h]; rfl
theorem old_push {n : Nat} {S0 : Sto} (h0 : Pot n S0) (o : MO) : Old n S0 (S0 ++ [o]) := ⟨by
    obtain ⟨a, b, e, r⟩ := h0
    exact ⟨a, b, by rw [List.getElem?_append_left (List.getElem?_eq_some_iff.mp e).1]; exact e, r⟩, by simp, fun k hk _ => by rw [List.getElem?_append_left hk]⟩
theorem range_at {n j i : Nat} (h : (List.range n)[j]? = some i) : j < n ∧ i = j := by
  obtain ⟨h1, h2⟩ := List.getElem?_eq_some_iff.mp h
  rw [List.length_range] at h1
  rw [List.getElem_range] at h2
  exact ⟨h1, h2.symm⟩
def isWd (L d : Nat) (v : Dv) : Prop := ∃ w, v = tI w ∧ Wd L w ∧ w.length = d
theorem q_lets {n L d : Nat} (hL : 1 ≤ L) (hL4 : L ≤ 4) (hd : d ≤ 40) : Rn n (g_law_letters [.ref n, .int (L : Int), .int (d : Int)]) (isWd L d) := by
  intro S0 h0
  have hn := h0.lt
  have hs : startE N_law_letters.length [.ref n, .int (L : Int), .int (d : Int)] = [some (.ref n), some (.int (L : Int)), some (.int (d : Int)), none, none] := rfl
  have o0 := old_push h0 (.lst [])
  obtain ⟨e', S', ⟨a, w, rfl, oo, hw1, hw2, hw3⟩, h⟩ := forD_idxS (S := S0 ++ [.lst []]) (S0 := S0 ++ [.lst []]) (env := [some (.ref n), some (.int (L : Int)), some (.int (d : Int)), some (.ref S0.length), none]) (m := rng1 (M.ret [.int (d : Int)])) (g := setE 4)
    (b := fun env => exprS (bmD appD (rdE 3 env) (consA (callD 2 g_law_draw (consA (rdE 0 env) (consA (rdE 1 env) (M.ret [])))) (M.ret []))) env)
    (List.range d) (fun i => .int (i : Nat)) (fun j e S' => ∃ a, ∃ w : List Int, e = [some (.ref n), some (.int (L : Int)), some (.int (d : Int)), some (.ref S0.length), a] ∧ Old n S0 S' ∧ S'[S0.length]? = some (.lst (w.map .int)) ∧ Wd L w ∧ w.length = j)
    (rngN d (by omega) _) ⟨none, [], rfl, o0, last_at S0 _, (fun _ z => nomatch z), rfl⟩ (by
      rintro j i0 hx _ S2 ⟨a, w, rfl, oo, hw1, hw2, hw3⟩
      obtain ⟨hj, rfl⟩ := range_at hx
      obtain ⟨v, S3, ⟨c, rfl, hc⟩, b1, b2, b3, b4, b5⟩ := app_step (arg_draw (n := n) (k := (L : Int)) (by omega) (by omega)) oo.pot hw1 (by omega) (by rw [List.length_map]; omega)
      refine ⟨_, S3, ⟨some (.int (i0 : Nat)), w ++ [(c : Int)], rfl, oo.step (Nat.le_refl _) b2 b4 b5, by rw [b3, List.map_append]; rfl, fun l hl => ?_, by rw [List.length_append, hw3]; rfl⟩, ?_⟩
      · rcases List.mem_append.mp hl with hl | hl
        · exact hw2 l hl
        · rw [List.mem_singleton.mp hl]; exact ⟨by omega, hc⟩
      · simp only [setE_def, M.bind_ret, List.set_cons_succ, List.set_cons_zero, rdE_zero, rdE_succ, consA_ret]
        exact expr_of b1)
  rw [List.length_range] at hw3
  have fin : b_law_letters (startE N_law_letters.length [.ref n, .int (L : Int), .int (d : Int)]) S0 = some (.rt (tI w), S') := by
    rw [hs]
    unfold b_law_letters
    rw [seq_of (set_of (w := .ref S0.length) (S' := S0 ++ [.lst []]) (new_ret [] (by simp) S0))]
    refine (seq_of h).trans ?_
    simp only [rdE_zero, rdE_succ, consA_ret, M.bind_ret]
    refine ret_of ?_
    show (match sqV S' (.ref S0.length) with | some us => some (Dv.tup us, S') | none => none) = _
    rw [show sqV S' (.ref S0.length) = some (w.map .int) from stL_of hw1]; rfl
  obtain ⟨S5, g1, g2, g3⟩ := old_end fin (pu_tI w) oo h0
  exact ⟨_, S5, g1, ⟨w, rfl, hw2, hw3⟩, g2, g3⟩
def isRow (L : Nat) (v : Dv) : Prop := ∃ row : Sd, v = dS row ∧ Wd L row.1 ∧ Wd L row.2 ∧ row.1.length ≤ 2 ∧ row.2.length ≤ 4 ∧ row.2 ≠ []
theorem arg_lets {n L : Nat} (hL : 1 ≤ L) (hL4 : L ≤ 4) {m : M Dv} {lo hi : Nat} (hh : hi ≤ 40) (h : Rn n m fun v => ∃ d : Nat, v = .int (d : Int) ∧ lo ≤ d ∧ d ≤ hi) : Rn n (callD 3 g_law_letters (consA (M.ret (.ref n)) (consA (M.ret (.int (L : Int))) (consA m (M.ret []))))) fun v => ∃ d, lo ≤ d ∧ d ≤ hi ∧ isWd L d v := by
  refine Rn.call (P := fun ws => ∃ d : Nat, ws = [.ref n, .int (L : Int), .int (d : Int)] ∧ lo ≤ d ∧ d ≤ hi) ?_ ?_
  · refine Rn.cons (P := fun v => v = .ref n) (Q := fun ws => ∃ d : Nat, ws = [.int (L : Int), .int (d : Int)] ∧ lo ≤ d ∧ d ≤ hi) (.ret rfl) ?_ fun v ws e ⟨m, e2, q⟩ => ⟨m, by rw [e, e2], q⟩
    refine Rn.cons (P := fun v => v = .int (L : Int)) (Q := fun ws => ∃ d : Nat, ws = [.int (d : Int)] ∧ lo ≤ d ∧ d ≤ hi) (.ret rfl) ?_ fun v ws e ⟨m, e2, q⟩ => ⟨m, by rw [e, e2], q⟩
    exact Rn.cons (Q := fun ws => ws = []) h (.ret rfl) fun v ws ⟨m, e, q⟩ e2 => ⟨m, by rw [e, e2], q⟩
  · rintro _ ⟨d, rfl, h1, h2⟩
    exact ⟨rfl, (q_lets hL hL4 (by omega)).mono fun v hv => ⟨d, h1, h2, hv⟩⟩
theorem q_row {n L : Nat} (hL : 1 ≤ L) (hL4 : L ≤ 4) : Rn n (g_law_row [.ref n, .int (L : Int)]) (isRow L) := Rn.fn (by
  have hs : startE N_law_row.length [.ref n, .int (L : Int)] = [some (.ref n), some (.int (L : Int)), none] := rfl
  rw [hs]
  unfold b_law_row
  simp only [rdE_zero, rdE_succ, M.bind_ret]
  refine Rn.set (arg_lets hL hL4 (lo := 0) (hi := 2) (by decide) ?_) ?_
  · simp only [consA_ret, callD_ret, List.length_cons, List.length_nil, if_pos]
    exact (draw (k := 3) (by decide) (by decide)).mono fun v ⟨d, e, hd⟩ => ⟨d, e, by omega, by omega⟩
  rintro _ ⟨d1, _, hd1, w1, rfl, hw1, hl1⟩
  simp only [List.set_cons_succ, List.set_cons_zero, rdE_zero, rdE_succ]
  refine Rn.rets (rn_tup (P := fun ws => ∃ row : Sd, ws = [tI row.1, tI row.2] ∧ Wd L row.1 ∧ Wd L row.2 ∧ row.1.length ≤ 2 ∧ row.2.length ≤ 4 ∧ row.2 ≠ []) ?_ ?_)
  · refine Rn.cons (P := fun v => v = tI w1) (Q := fun ws => ∃ w2 : List Int, ws = [tI w2] ∧ Wd L w2 ∧ w2.length ≤ 4 ∧ w2 ≠ []) (.ret rfl) ?_ fun v ws e ⟨w2, e2, h1, h2, h3⟩ => ⟨(w1, w2), by rw [e, e2], hw1, h1, by show w1.length ≤ 2; omega, h2, h3⟩
    refine Rn.cons (Q := fun ws => ws = []) (arg_lets hL hL4 (lo := 1) (hi := 4) (by decide) ?_) (.ret rfl) ?_
    · simp only [consA_ret, callD_ret, List.length_cons, List.length_nil, if_pos]
      refine Rn.bind (draw (k := 4) (by decide) (by decide)) ?_
      rintro _ ⟨d, rfl, hd⟩
      rw [addD_int]
      exact .ret ⟨1 + d, by rw [Int.natCast_add]; rfl, by omega, by omega⟩
    · rintro v ws ⟨d, h1, h2, w, rfl, hw, hl⟩ rfl
      exact ⟨w, rfl, hw, by omega, fun z => by rw [z, List.length_nil] at hl; omega⟩
  · rintro _ ⟨row, rfl, q⟩
    exact ⟨by simp, _, rfl, pu_dS row, row, rfl, q⟩)
end K31
namespace K31
open PySem PySem.Spec PyProof.Rows L2 DD
variable [IW : HasW]
def okY (R L : Nat) (y : Wy) : Prop := (0 ≤ y.1 ∧ y.1 < (R : Int)) ∧ (0 ≤ y.2.1 ∧ y.2.1 < (L : Int)) ∧ (0 ≤ y.2.2.1 ∧ y.2.2.1 < (R : Int)) ∧ (0 ≤ y.2.2.2 ∧ y.2.2.2 < 2)
def isWay (R : Nat) (r l : Int) (w : Dv) : Prop := ∃ y : Wy, w = dW y ∧ y.1 = r ∧ y.2.1 = l ∧ (0 ≤ y.2.2.1 ∧ y.2.2.1 < (R : Int)) ∧ (0 ≤ y.2.2.2 ∧ y.2.2.2 < 2)
theorem way_draw {n R : Nat} (hR : 1 ≤ R) (hR5 : R ≤ 5) (r l : Int) : Rn n (tupD (consA (M.ret (.int r)) (consA (M.ret (.int l)) (consA (callD 2 g_law_draw (M.ret [.ref n, .int (R : Int)])) (consA (callD 2 g_law_draw (M.ret [.ref n, .int 2])) (M.ret [])))))) (isWay R r l) := by
  rw [callD_ret, if_pos (show [Dv.ref n, .int (R : Int)].length = 2 from rfl), callD_ret, if_pos (show [Dv.ref n, .int 2].length = 2 from rfl)]
  refine rn_tup (P := fun ws => ∃ a b : Nat, ws = [.int r, .int l, .int (a : Int), .int (b : Int)] ∧ (a : Int) < R ∧ (b : Int) < 2) ?_ ?_
  · refine Rn.cons (P := fun v => v = .int r) (Q := fun ws => ∃ a b : Nat, ws = [.int l, .int (a : Int), .int (b : Int)] ∧ (a : Int) < R ∧ (b : Int) < 2) (.ret rfl) ?_ fun v ws hv ⟨a, b, e, q⟩ => ⟨a, b, by rw [hv, e], q⟩
    refine Rn.cons (P := fun v => v = .int l) (Q := fun ws => ∃ a b : Nat, ws = [.int (a : Int), .int (b : Int)] ∧ (a : Int) < R ∧ (b : Int) < 2) (.ret rfl) ?_ fun v ws hv ⟨a, b, e, q⟩ => ⟨a, b, by rw [hv, e], q⟩
    refine Rn.cons (P := isInt (R : Int)) (Q := fun ws => ∃ b : Nat, ws = [.int (b : Int)] ∧ (b : Int) < 2) (draw (by omega) (by omega)) ?_ fun v ws ⟨a, e, ha⟩ ⟨b, e2, hb⟩ => ⟨a, b, by rw [e, e2], ha, hb⟩
    exact Rn.cons (P := isInt 2) (Q := fun ws => ws = []) (draw (by decide) (by decide)) (.ret rfl) fun v ws ⟨b, e, hb⟩ e2 => ⟨b, by rw [e, e2], hb⟩
  · rintro _ ⟨a, b, rfl, ha, hb⟩
    exact ⟨by simp, (r, l, (a : Int), (b : Int)), rfl, rfl, rfl, ⟨by show (0 : Int) ≤ (a : Int); omega, ha⟩, ⟨by show (0 : Int) ≤ (b : Int); omega, hb⟩⟩
theorem ne_dW (a b : Wy) : neD (dW a) (dW b) = M.ret (.bl (!decide (a = b))) := by
  have hs : twoStr (dW a) (dW b) = none := rfl
  rw [neD_pu hs (pu_tI _) (pu_tI _) (shaped_tI _) (shaped_tI _)]
  show M.ret (Dv.bl (!PyData.eqv (py (tI (wI a))) (py (tI (wI b))))) = _
  rw [eqv_tI]
  by_cases h : a = b
  · rw [h]; simp
  · rw [decide_eq_false h, decide_eq_false fun z => h (wI_inj z)]
noncomputable def bR : En → M Fl := fun env => seqD (setS 8 (tupD (consA (rdE 6 env) (consA (rdE 7 env) (consA (callD 2 g_law_draw (consA (rdE 0 env) (consA (rdE 3 env) (M.ret [])))) (consA (callD 2 g_law_draw (consA (rdE 0 env) (consA (M.ret (.int 2)) (M.ret [])))) (M.ret [])))))) env) fun env => seqD (exprS (bmD appD (rdE 4 env) (consA (rdE 8 env) (M.ret []))) env) fun env => seqD (setS 9 (tupD (consA (rdE 6 env) (consA (rdE 7 env) (consA (callD 2 g_law_draw (consA (rdE 0 env) (consA (rdE 3 env) (M.ret [])))) (consA (callD 2 g_law_draw (consA (rdE 0 env) (consA (M.ret (.int 2)) (M.ret [])))) (M.ret [])))))) env) fun env => ifS (andT (M.bind (M.bind (rdE 5 env) fun x => M.bind (M.ret (.int 0)) fun y => gtD x y) asB) (andT (M.bind (M.bind (rdE 9 env) fun x => M.bind (rdE 8 env) fun y => neD x y) asB) (M.bind (M.bind (callD 2 g_law_draw (consA (rdE 0 env) (consA (M.ret (.int 2)) (M.ret [])))) fun x => M.bind (M.ret (.int 0)) fun y => eqD x y) asB))) (seqD (exprS (bmD appD (rdE 4 env) (consA (rdE 9 env) (M.ret []))) env) fun env => setS 5 (M.bind (rdE 5 env) fun x => M.bind (M.ret (.int 1)) fun y => subD x y) env) (nxD env)
def eR (n L R q : Nat) (left : Int) (a6 a7 a8 a9 : Option Dv) : En := [some (.ref n), some (.int (L : Int)), some (.int 3), some (.int (R : Int)), some (.ref q), some (.int left), a6, a7, a8, a9]
def More (R : Nat) (r l : Int) (more : List Wy) : Prop := more ≠ [] ∧ more.length ≤ 2 ∧ more.Nodup ∧ ∀ y ∈ more, y.1 = r ∧ y.2.1 = l ∧ (0 ≤ y.2.2.1 ∧ y.2.2.1 < (R : Int)) ∧ (0 ≤ y.2.2.2 ∧ y.2.2.2 < 2)
theorem r_step {n L R q : Nat} (hR : 1 ≤ R) (hR5 : R ≤ 5) {S0 S : Sto} (hn : n < S0.length) (hq : S0.length ≤ q) (o : Old n S0 S) {acc : List Wy} (hs : S[q]? = some (.lst (acc.map dW))) (hl : acc.length ≤ 1000) (left r l : Int) (a8 a9 : Option Dv) :
    ∃ left' b8 b9 more S', More R r l more ∧ Old n S0 S' ∧ S'[q]? = some (.lst ((acc ++ more).map dW)) ∧ bR (eR n L R q left (some (.int r)) (some (.int l)) a8 a9) S = some (.nx (eR n L R q left' (some (.int r)) (some (.int l)) b8 b9), S') := by
  obtain ⟨w1, S1, d1, ⟨y, rfl, y1, y2, y3, y4⟩, p1, st1⟩ := way_draw (n := n) hR hR5 r l S o.pot
  have o1 := o.draw p1 st1
  have sl := (List.getElem?_eq_some_iff.mp hs).1
  have s1 : S1[q]? = some (.lst (acc.map dW)) := by rw [st1.same _ sl (by omega)]; exact hs
  have a1 := bm_app (S := S1) (n := q) (us := acc.map dW) (m := M.ret (.ref q)) (k := M.ret [dW y]) (w := dW y) rfl rfl s1 (by rw [List.length_map]; omega)
  have s2 : (S1.set q (.lst (acc.map dW ++ [dW y])))[q]? = some (.lst ((acc ++ [y]).map dW)) := by
    rw [List.getElem?_set_self (List.getElem?_eq_some_iff.mp s1).1, List.map_append]; rfl
  have p2 : Pot n (S1.set q (.lst (acc.map dW ++ [dW y]))) := by
    obtain ⟨a, b, e, h⟩ := p1
    exact ⟨a, b, by rw [List.getElem?_set_ne (by omega)]; exact e, h⟩
  have o2 := o1.step hq p2 (fun k hk hkn hkq => by rw [List.getElem?_set_ne (Ne.symm hkq)]) (by rw [List.length_set]; exact Nat.le_refl _)
  obtain ⟨w2, S3, d2, ⟨z, rfl, z1, z2, z3, z4⟩, p3, st3⟩ := way_draw (n := n) hR hR5 r l _ o2.pot
  have o3 := o2.draw p3 st3
  have s3 : S3[q]? = some (.lst ((acc ++ [y]).map dW)) := by rw [st3.same _ (List.getElem?_eq_some_iff.mp s2).1 (by omega)]; exact s2
  have one : More R r l [y] := ⟨List.cons_ne_nil _ _, by simp, by simp, fun x hx => by rw [List.mem_singleton.mp hx]; exact ⟨y1, y2, y3, y4⟩⟩
  have begin_ : ∀ {F : Fl} {S' : Sto}, ifS (andT (M.ret (decide (0 < left))) (andT (M.ret (!decide (z = y))) (M.bind (M.bind (callD 2 g_law_draw (M.ret [.ref n, .int 2])) fun x => eqD x (.int 0)) asB))) (seqD (exprS (bmD appD (M.ret (.ref q)) (M.ret [dW z])) (eR n L R q left (some (.int r)) (some (.int l)) (some (dW y)) (some (dW z)))) fun env => setS 5 (M.bind (rdE 5 env) fun x => subD x (.int 1)) env) (M.ret (.nx (eR n L R q left (some (.int r)) (some (.int l)) (some (dW y)) (some (dW z))))) S3 = some (F, S') →
      bR (eR n L R q left (some (.int r)) (some (.int l)) a8 a9) S = some (F, S') := by
    intro F S' hF
    unfold bR eR
    simp only [rdE_zero, rdE_succ, consA_ret]
    rw [seq_of (set_of d1)]
    simp only [List.set_cons_succ, List.set_cons_zero, rdE_zero, rdE_succ, consA_ret]
    rw [seq_of (expr_of a1)]
    simp only [List.set_cons_succ, List.set_cons_zero, rdE_zero, rdE_succ, consA_ret]
    rw [seq_of (set_of d2)]
    simp only [List.set_cons_succ, List.set_cons_zero, rdE_zero, rdE_succ, consA_ret, M.bind_ret, gtD_int, asB_bl, ne_dW, nxD_def]
    exact hF
  by_cases c1 : 0 < left
  · by_cases c2 : z = y
    · refine ⟨left, some (dW y), some (dW z), [y], S3, one, o3, s3, begin_ ?_⟩
      rw [decide_eq_true c1, decide_eq_true c2]
      rfl
    · obtain ⟨v, S4, d4, ⟨d, rfl, hd⟩, p4, st4⟩ := draw (n := n) (k := 2) (by decide) (by decide) S3 o3.pot
      have o4 := o3.draw p4 st4
      have s4 : S4[q]? = some (.lst ((acc ++ [y]).map dW)) := by rw [st4.same _ (List.getElem?_eq_some_iff.mp s3).1 (by omega)]; exact s3
      have ht : andT (M.ret (decide (0 < left))) (andT (M.ret (!decide (z = y))) (M.bind (M.bind (callD 2 g_law_draw (M.ret [.ref n, .int 2])) fun x => eqD x (.int 0)) asB)) S3 = some (decide ((d : Int) = 0), S4) := by
        rw [decide_eq_true c1, decide_eq_false c2, andT_ret, if_pos rfl, andT_ret, if_pos (show (!false) = true from rfl), callD_ret, if_pos (show [Dv.ref n, .int 2].length = 2 from rfl), M.bind_assoc, M.bind_of d4, eqD_int, M.bind_ret, asB_bl]
        rfl
      by_cases c3 : (d : Int) = 0
      · have a4 := bm_app (S := S4) (n := q) (us := (acc ++ [y]).map dW) (m := M.ret (.ref q)) (k := M.ret [dW z]) (w := dW z) rfl rfl s4 (by rw [List.length_map, List.length_append]; simp; omega)
        have s5 : (S4.set q (.lst ((acc ++ [y]).map dW ++ [dW z])))[q]? = some (.lst ((acc ++ [y, z]).map dW)) := by
          rw [List.getElem?_set_self (List.getElem?_eq_some_iff.mp s4).1]
          rw [show acc ++ [y, z] = (acc ++ [y]) ++ [z] by simp, List.map_append (l₂ := [z])]; rfl
        have p5 : Pot n (S4.set q (.lst ((acc ++ [y]).map dW ++ [dW z]))) := by
          obtain ⟨a, b, e, h⟩ := p4
          exact ⟨a, b, by rw [List.getElem?_set_ne (by omega)]; exact e, h⟩
        refine ⟨left - 1, some (dW y), some (dW z), [y, z], S4.set q (.lst ((acc ++ [y]).map dW ++ [dW z])), ⟨List.cons_ne_nil _ _, by simp, by simp; exact fun e => c2 e.symm, fun x hx => ?_⟩, o4.step hq p5 (fun k hk hkn hkq => by rw [List.getElem?_set_ne (Ne.symm hkq)]) (by rw [List.length_set]; exact Nat.le_refl _), s5, begin_ ?_⟩
        · rcases List.mem_cons.mp hx with rfl | hx
          · exact ⟨y1, y2, y3, y4⟩
          · rw [List.mem_singleton.mp hx]; exact ⟨z1, z2, z3, z4⟩
        · rw [ifS_of ht, decide_eq_true c3, if_pos rfl, seq_of (expr_of a4)]
          unfold eR
          simp only [rdE_zero, rdE_succ, M.bind_ret, subD_int, setS_ret, List.set_cons_succ, List.set_cons_zero]
          rfl
      · refine ⟨left, some (dW y), some (dW z), [y], S4, one, o4, s4, begin_ ?_⟩
        rw [ifS_of ht, decide_eq_false c3, if_neg Bool.false_ne_true]
        rfl
  · refine ⟨left, some (dW y), some (dW z), [y], S3, one, o3, s3, begin_ ?_⟩
    rw [decide_eq_false c1]
    rfl

/-- keys that were gone through -/
def lt2 (y : Wy) (i k : Nat) : Prop := y.1 < (i : Int) ∨ (y.1 = (i : Int) ∧ y.2.1 < (k : Int))
theorem read_run {n R L : Nat} (hR : 1 ≤ R) (hR3 : R ≤ 3) (hL : 1 ≤ L) (hL2 : L ≤ 2) {S0 : Sto} (hn : n < S0.length) {q : Nat} (hq : S0.length ≤ q) {S : Sto} (o : Old n S0 S) (hs : S[q]? = some (.lst [])) (left : Int) :
    ∃ e' acc S', (∀ y ∈ acc, okY R L y) ∧ acc.length ≤ 12 ∧ acc.Nodup ∧ (∀ r l : Int, 0 ≤ r → r < R → 0 ≤ l → l < L → ∃ y ∈ acc, y.1 = r ∧ y.2.1 = l) ∧ Old n S0 S' ∧ S'[q]? = some (.lst ((acc : List Wy).map dW)) ∧
    (∃ left' a6 a7 a8 a9, e' = eR n L R q left' a6 a7 a8 a9) ∧ forD (rng1 (M.ret [.int (R : Int)])) (setE 6) (fun env => forD (rng1 (consA (rdE 1 env) (M.ret []))) (setE 7) bR env) (eR n L R q left none none none none) S = some (.nx e', S') := by
  obtain ⟨e1, S1, ⟨l1, b6, b7, b8, b9, acc1, rfl, o1, s1, ok1, len1, nd1, lt1, all1⟩, run1⟩ := forD_idxS (S := S) (S0 := S) (env := eR n L R q left none none none none) (m := rng1 (M.ret [.int (R : Int)])) (g := setE 6)
    (b := fun env => forD (rng1 (consA (rdE 1 env) (M.ret []))) (setE 7) bR env)
    (List.range R) (fun i => .int (i : Nat)) (fun j e S => ∃ left a6 a7 a8 a9, ∃ acc : List Wy, e = eR n L R q left a6 a7 a8 a9 ∧ Old n S0 S ∧ S[q]? = some (.lst (acc.map dW)) ∧ (∀ y ∈ acc, okY R L y) ∧ acc.length ≤ j * (2 * L) ∧ acc.Nodup ∧ (∀ y ∈ acc, y.1 < (j : Int)) ∧ (∀ r l : Int, 0 ≤ r → r < j → 0 ≤ l → l < L → ∃ y ∈ acc, y.1 = r ∧ y.2.1 = l))
    (rngN R (by omega) _) ⟨left, none, none, none, none, [], rfl, o, hs, fun _ z => (nomatch z), by simp, List.nodup_nil, fun _ z => (nomatch z), fun r l h1 h2 => by omega⟩ (by
      rintro j i0 hx _ S ⟨lf, a6, a7, a8, a9, acc, rfl, o, s, ok, len, nd, lt, all⟩
      obtain ⟨hj, rfl⟩ := range_at hx
      have jl : i0 * (2 * L) ≤ 3 * 4 := Nat.mul_le_mul (by omega) (by omega)
      obtain ⟨e2, S2, ⟨l2, c7, c8, c9, acc2, rfl, o2, s2, ok2, len2, nd2, lt2', sub2, all2⟩, run2⟩ := forD_idxS (S := S) (S0 := S) (env := eR n L R q lf (some (.int (i0 : Nat))) a7 a8 a9) (m := rng1 (M.ret [.int (L : Int)])) (g := setE 7) (b := bR)
        (List.range L) (fun i => .int (i : Nat)) (fun k e S => ∃ lf a7 a8 a9, ∃ acc2 : List Wy, e = eR n L R q lf (some (.int (i0 : Nat))) a7 a8 a9 ∧ Old n S0 S ∧ S[q]? = some (.lst (acc2.map dW)) ∧ (∀ y ∈ acc2, okY R L y) ∧ acc2.length ≤ i0 * (2 * L) + 2 * k ∧ acc2.Nodup ∧ (∀ y ∈ acc2, lt2 y i0 k) ∧ (∀ y ∈ acc, y ∈ acc2) ∧ (∀ l : Int, 0 ≤ l → l < k → ∃ y ∈ acc2, y.1 = (i0 : Int) ∧ y.2.1 = l))
        (rngN L (by omega) _) ⟨lf, a7, a8, a9, acc, rfl, o, s, ok, by omega, nd, fun y hy => .inl (lt y hy), fun _ h => h, fun l h1 h2 => by omega⟩ (by
          rintro k k0 hx _ S ⟨lf, a7, a8, a9, acc2, rfl, o2, s2, ok2, len2, nd2, lt2', sub2, all2⟩
          obtain ⟨hk, rfl⟩ := range_at hx
          obtain ⟨lf', d8, d9, more, S', ⟨m1, m2, m3, m4⟩, o3, s3, run⟩ := r_step (L := L) (S := S) hR (by omega) hn hq o2 s2 (by omega) lf (i0 : Int) (k0 : Int) a8 a9
          refine ⟨_, S', ⟨lf', some (.int (k0 : Nat)), d8, d9, acc2 ++ more, rfl, o3, s3, fun z hz => ?_, by rw [List.length_append]; omega, ?_, fun z hz => ?_, fun z hz => List.mem_append_left _ (sub2 z hz), fun l h1 h2 => ?_⟩, ?_⟩
          · rcases List.mem_append.mp hz with hz | hz
            · exact ok2 z hz
            · obtain ⟨y1, y2, y3, y4⟩ := m4 z hz
              exact ⟨⟨by omega, by omega⟩, ⟨by omega, by omega⟩, y3, y4⟩
          · refine List.nodup_append.mpr ⟨nd2, m3, fun a ha b hb e => ?_⟩
            subst e
            obtain ⟨y1, y2, _⟩ := m4 a hb
            rcases lt2' a ha with h | ⟨_, h⟩ <;> omega
          · rcases List.mem_append.mp hz with hz | hz
            · rcases lt2' z hz with h | ⟨h, h'⟩
              · exact .inl h
              · exact .inr ⟨h, by omega⟩
            · obtain ⟨y1, y2, _⟩ := m4 z hz
              exact .inr ⟨y1, by omega⟩
          · by_cases hl : l < (k0 : Int)
            · obtain ⟨z, hz, q⟩ := all2 l h1 hl
              exact ⟨z, List.mem_append_left _ hz, q⟩
            · obtain ⟨y, hy⟩ := List.exists_mem_of_ne_nil more m1
              obtain ⟨y1, y2, _⟩ := m4 y hy
              exact ⟨y, List.mem_append_right _ hy, y1, by omega⟩
          · have e : M.bind (setE 7 (.int (k0 : Nat)) (eR n L R q lf (some (.int (i0 : Nat))) a7 a8 a9)) bR = bR (eR n L R q lf (some (.int (i0 : Int))) (some (.int (k0 : Int))) a8 a9) := by
              rw [setE_def, M.bind_ret]; rfl
            rw [e]
            exact run)
      rw [List.length_range] at len2 all2 lt2'
      refine ⟨_, S2, ⟨l2, some (.int (i0 : Nat)), c7, c8, c9, acc2, rfl, o2, s2, ok2, by rw [Nat.succ_mul]; omega, nd2, fun y hy => ?_, fun r l h1 h2 h3 h4 => ?_⟩, ?_⟩
      · rcases lt2' y hy with h | ⟨h, _⟩ <;> omega
      · by_cases hr : r < (i0 : Int)
        · obtain ⟨z, hz, q⟩ := all r l h1 hr h3 h4
          exact ⟨z, sub2 z hz, q⟩
        · obtain ⟨z, hz, q1, q2⟩ := all2 l h3 h4
          exact ⟨z, hz, by rw [q1]; omega, q2⟩
      · have e : M.bind (setE 6 (.int (i0 : Nat)) (eR n L R q lf a6 a7 a8 a9)) (fun env => forD (rng1 (consA (rdE 1 env) (M.ret []))) (setE 7) bR env) = forD (rng1 (M.ret [.int (L : Int)])) (setE 7) bR (eR n L R q lf (some (.int (i0 : Nat))) a7 a8 a9) := by
          rw [setE_def, M.bind_ret]; rfl
        rw [e]
        exact run2)
  rw [List.length_range] at len1 all1
  have rl : R * (2 * L) ≤ 3 * 4 := Nat.mul_le_mul hR3 (by omega)
  exact ⟨_, acc1, S1, ok1, by omega, nd1, all1, o1, s1, ⟨l1, b6, b7, b8, b9, rfl⟩, run1⟩
theorem sortL_idem (us : List Dv) : sortL (sortL us) = sortL us :=
  List.mergeSort_of_pairwise (PySem.W.sort_pairwise (PySem.W.sortLe_total _ _ _) us)
def isReader (L : Nat) (v : Dv) : Prop := ∃ (R : Nat) (us : List Wy), v = .tup [.int (L : Int), .int (R : Int), .lst (us.map dW)] ∧ Ws R L us ∧ R ≤ 3 ∧ us.length ≤ 12 ∧ sortL (us.map dW) = us.map dW
theorem q_reader {n L : Nat} (hL : 1 ≤ L) (hL2 : L ≤ 2) : Rn n (g_law_reader [.ref n, .int (L : Int), .int 3]) (isReader L) := by
  intro S0 h0
  have hn := h0.lt
  have hs : startE N_law_reader.length [.ref n, .int (L : Int), .int 3] = [some (.ref n), some (.int (L : Int)), some (.int 3), none, none, none, none, none, none, none] := rfl
  obtain ⟨v, S1, d1, ⟨d, rfl, hd⟩, p1, st1⟩ := draw (n := n) (k := 3) (by decide) (by decide) S0 h0
  have o1 : Old n S0 S1 := ⟨p1, st1.le, st1.same⟩
  have o2 : Old n S0 (S1 ++ [.lst []]) := by
    have := old_push p1 (.lst [])
    exact ⟨this.pot, Nat.le_trans o1.len this.len, fun k hk hk2 => by rw [this.same k (by have := o1.len; omega) hk2]; exact o1.same k hk hk2⟩
  have eR1 : (1 : Int) + (d : Int) = ((1 + d : Nat) : Int) := by omega
  generalize hR : 1 + d = R at eR1
  have hR1 : 1 ≤ R := by omega
  have hR3 : R ≤ 3 := by omega
  have hl : S0.length ≤ S1.length := o1.len
  obtain ⟨e', acc, S', ok, len, nd, all, o3, s3, ⟨lf, b6, b7, b8, b9, rfl⟩, run⟩ := read_run hR1 hR3 hL hL2 hn hl o2 (last_at S1 _) (if (R : Int) = 3 then 2 else 4)
  obtain ⟨y0, hy0, _⟩ := all 0 0 (by omega) (by omega) (by omega) (by omega)
  have hne : acc ≠ [] := fun z => by rw [z] at hy0; cases hy0
  obtain ⟨us, p, he⟩ := sort_W acc
  have W : Ws R L us := (Ws.perm ⟨ok, all, nd, by omega, hR1, by omega, hL, by omega⟩ p)
  have so : sortedA [.ref S1.length] S' = some (.lst (us.map dW), S') := by
    show (match (lsV S' (.ref S1.length)).bind intsOf with | some ns => some (Dv.lst ((srtI ns).map .int), S') | none => sortedD [.ref S1.length] S') = _
    rw [show lsV S' (.ref S1.length) = some (acc.map dW) from stL_of s3, Option.bind_some, intsOf_W hne]
    show (match lsV S' (.ref S1.length) with | some us => if us.length ≤ sizeLine ∧ SortOk us then some (Dv.lst (sortL us), S') else none | none => none) = _
    rw [show lsV S' (.ref S1.length) = some (acc.map dW) from stL_of s3]
    show (if (acc.map dW).length ≤ sizeLine ∧ SortOk (acc.map dW) then some (Dv.lst (sortL (acc.map dW)), S') else none) = _
    rw [if_pos ⟨line_ge (by rw [List.length_map]; omega), sortOk_W acc⟩, he]
  have fin : b_law_reader (startE N_law_reader.length [.ref n, .int (L : Int), .int 3]) S0 = some (.rt (.tup [.int (L : Int), .int (R : Int), .lst (us.map dW)]), S') := by
    rw [hs]
    unfold b_law_reader
    have first : consA (M.bind (M.ret (.int 1)) fun x => M.bind (callD 2 g_law_draw (consA (M.ret (.ref n)) (consA (M.ret (.int 3)) (M.ret [])))) fun y => addD x y) (consA (newD (M.ret [])) (consA (M.ret (.int 4)) (M.ret []))) S0 = some ([.int (R : Int), .ref S1.length, .int 4], S1 ++ [.lst []]) := by
      rw [consA_ret, consA_ret, M.bind_ret, callD_ret, if_pos (show [Dv.ref n, .int 3].length = 2 from rfl), consA_def, M.bind_assoc, M.bind_of d1, addD_int, M.bind_ret, eR1, consA_ret, M.bind_of (cons_of (new_ret [] (by simp) S1))]
      rfl
    have e1 : parS3 3 4 5 (consA (M.bind (M.ret (.int 1)) fun x => M.bind (callD 2 g_law_draw (consA (M.ret (.ref n)) (consA (M.ret (.int 3)) (M.ret [])))) fun y => addD x y) (consA (newD (M.ret [])) (consA (M.ret (.int 4)) (M.ret [])))) [some (.ref n), some (.int (L : Int)), some (.int 3), none, none, none, none, none, none, none] S0 = some (.nx [some (.ref n), some (.int (L : Int)), some (.int 3), some (.int (R : Int)), some (.ref S1.length), some (.int 4), none, none, none, none], S1 ++ [.lst []]) := by
      unfold parS3
      rw [M.bind_of first]
      rfl
    refine (seq_of e1).trans ?_
    have e2 : setS 5 (ifE (M.bind (M.bind (M.ret (.int (R : Int))) fun x => M.bind (M.ret (.int 3)) fun y => eqD x y) asB) (M.ret (.int 2)) (M.ret (.int 4))) [some (.ref n), some (.int (L : Int)), some (.int 3), some (.int (R : Int)), some (.ref S1.length), some (.int 4), none, none, none, none] = M.ret (.nx (eR n L R S1.length (if (R : Int) = 3 then 2 else 4) none none none none)) := by
      rw [M.bind_ret, M.bind_ret, eqD_int, M.bind_ret, asB_bl, ifE_ret]
      by_cases c : (R : Int) = 3
      · rw [decide_eq_true c, if_pos rfl, if_pos c]; rfl
      · rw [decide_eq_false c, if_neg Bool.false_ne_true, if_neg c]; rfl
    refine (seq_of (congrFun e2 _)).trans ?_
    refine (seq_of run).trans ?_
    unfold eR
    simp only [rdE_zero, rdE_succ, consA_ret, M.bind_ret]
    refine ret_of (tup_of (ws := [.int (L : Int), .int (R : Int), .lst (us.map dW)]) ?_ (by simp))
    exact consR (consR (cons_of so))
  have pu : (Dv.tup [.int (L : Int), .int (R : Int), .lst (us.map dW)]).pu = true := by
    have := (sortOk_W us).1
    show (true && (true && ((Dv.lst (us.map dW)).pu && true))) = true
    rw [show (Dv.lst (us.map dW)).pu = true from this]; rfl
  obtain ⟨S5, g1, g2, g3⟩ := old_end fin pu o3 h0
  exact ⟨_, S5, g1, ⟨R, us, rfl, W, hR3, by rw [p.length_eq]; omega, by rw [← he]; exact sortL_idem _⟩, g2, g3⟩
end K31
namespace K31
open PySem PySem.Spec PyProof.Rows L2 DD
variable [IW : HasW]
/-! ## a walk -/
def dM (m : Int × Nat) : Dv := .tup [.int m.1, .int (m.2 : Nat)]
structure Mk (us : List Wy) (row : Sd) (R : Nat) (w : List Int) (m : Int × Nat) : Prop where
  b : row.1.length ≤ m.2
  s : (m.2 - row.1.length) % row.2.length = 0
  le : m.2 ≤ w.length
  jn : jn us 0 (w.take m.2) = some m.1
  r0 : 0 ≤ m.1
  r1 : m.1 < (R : Int)
structure WI (us : List Wy) (row : Sd) (R n : Nat) (S0 : Sto) (qf qm j : Nat) (room : Int) (w : List Int) (M : List (Int × Nat)) (S : Sto) : Prop where
  o : Old n S0 S
  sf : S[qf]? = some (.lst (w.map .int))
  sm : S[qm]? = some (.lst (M.map dM))
  len : w.length = j
  inw : In us w
  jn : jn us 0 w = some room
  lt : lets us row 0 w = true
  rr : 0 ≤ room ∧ room < (R : Int)
  mks : ∀ m ∈ M, Mk us row R w m
  ml : M.length = (j - row.1.length + (row.2.length - 1)) / row.2.length
  ms : ∀ m ∈ M, m.2 < j
  mp : M.Pairwise fun x y => x.2 < y.2
theorem Mk.app {us : List Wy} {row : Sd} {R : Nat} {w : List Int} {m : Int × Nat} (h : Mk us row R w m) (k : Int) : Mk us row R (w ++ [k]) m :=
  ⟨h.b, h.s, by rw [List.length_append]; exact Nat.le_trans h.le (Nat.le_add_right _ _), by rw [List.take_append_of_le_length h.le]; exact h.jn, h.r0, h.r1⟩
theorem letter_in {L : Nat} {row : Sd} (w1 : Wd L row.1) (w2 : Wd L row.2) (hne : row.2 ≠ []) (p : Nat) : 0 ≤ letter row p ∧ letter row p < (L : Int) := by
  unfold letter
  split
  · rename_i h
    rw [List.getD_eq_getElem?_getD, List.getElem?_eq_getElem h]
    exact w1 _ (List.getElem_mem h)
  · have hm : (p - row.1.length) % row.2.length < row.2.length := Nat.mod_lt _ (pos_of hne)
    rw [List.getD_eq_getElem?_getD, List.getElem?_eq_getElem hm]
    exact w2 _ (List.getElem_mem hm)
noncomputable def bWk : En → M Fl := fun env => seqD (ifS (andT (M.bind (M.bind (rdE 6 env) fun x => M.bind (M.bind (consA (rdE 7 env) (M.ret [])) lenA) fun y => geD x y) asB) (M.bind (M.bind (M.bind (M.bind (consA (M.bind (rdE 6 env) fun x => M.bind (M.bind (consA (rdE 7 env) (M.ret [])) lenA) fun y => subD x y) (M.ret [])) intD) fun x => M.bind (M.bind (consA (rdE 8 env) (M.ret [])) lenA) fun y => modD x y) fun x => M.bind (M.ret (.int 0)) fun y => eqD x y) asB)) (exprS (bmD appD (rdE 5 env) (consA (tupD (consA (rdE 3 env) (consA (rdE 6 env) (M.ret [])))) (M.ret []))) env) (nxD env)) fun env => seqD (setS 10 (lcD (enmD (consA (rdE 1 env) (M.ret []))) [11, 12] (tupG 2 (gsCons (setE 11) (gsCons (setE 12) (gsNil)))) (fun env => andT (M.bind (M.bind (M.bind (rdE 12 env) fun x => M.bind (M.ret (.int 0)) fun y => ixA x y) fun x => M.bind (rdE 3 env) fun y => eqD x y) asB) (M.bind (M.bind (M.bind (rdE 12 env) fun x => M.bind (M.ret (.int 1)) fun y => ixA x y) fun x => M.bind (callD 2 g_law_letter (consA (rdE 2 env) (consA (rdE 6 env) (M.ret [])))) fun y => eqD x y) asB)) (fun env => rdE 11 env) env) env) fun env => seqD (exprS (bmD appD (rdE 4 env) (consA (callD 2 g_law_pick (consA (rdE 0 env) (consA (rdE 10 env) (M.ret [])))) (M.ret []))) env) fun env => asgS (tupG 2 (gsCons (setE 3) (gsCons (setE 6) (gsNil)))) (tupD (consA (M.bind (M.bind (rdE 1 env) fun x => M.bind (M.bind (rdE 4 env) fun x => M.bind (M.bind (M.ret (.int 1)) negD) fun y => ixA x y) fun y => ixA x y) fun x => M.bind (M.ret (.int 2)) fun y => ixA x y) (consA (M.bind (rdE 6 env) fun x => M.bind (M.ret (.int 1)) fun y => addD x y) (M.ret [])))) env
def eW (n : Nat) (us : List Wy) (row : Sd) (room : Int) (qf qm j : Nat) (a9 a10 a11 a12 a13 a14 a15 a16 a17 a18 : Option Dv) : En := [some (.ref n), some (.lst (us.map dW)), some (dS row), some (.int room), some (.ref qf), some (.ref qm), some (.int (j : Nat)), some (tI row.1), some (tI row.2), a9, a10, a11, a12, a13, a14, a15, a16, a17, a18]
/-- the ways on from a room by a letter -/
def pW (room l : Int) (q : Nat × Wy) : Bool := decide (q.2.1 = room) && decide (q.2.2.1 = l)
def onW (us : List Wy) (room l : Int) : List Dv := (((List.range us.length).zip us).filter (pW room l)).map fun q => .int (q.1 : Nat)
theorem onW_mem {us : List Wy} {room l : Int} {v : Dv} (h : v ∈ onW us room l) : ∃ k : Nat, v = .int (k : Nat) ∧ k < us.length ∧ (wy us (k : Int)).1 = room ∧ (wy us (k : Int)).2.1 = l := by
  obtain ⟨⟨k, y⟩, hq, rfl⟩ := List.mem_map.mp h
  obtain ⟨hz, hp⟩ := List.mem_filter.mp hq
  obtain ⟨i, hi⟩ := List.mem_iff_getElem?.mp hz
  rw [zip_range] at hi
  obtain ⟨y', hy, e⟩ := Option.map_eq_some_iff.mp hi
  cases e
  have hk : k < us.length := (List.getElem?_eq_some_iff.mp hy).1
  have e1 : wy us (k : Int) = y := by
    unfold wy
    rw [Int.toNat_natCast, List.getD_eq_getElem?_getD, hy]; rfl
  unfold pW at hp
  rw [Bool.and_eq_true, decide_eq_true_eq, decide_eq_true_eq] at hp
  exact ⟨k, rfl, hk, by rw [e1]; exact hp.1, by rw [e1]; exact hp.2⟩
theorem onW_pos {R L : Nat} {us : List Wy} (W : Ws R L us) {room l : Int} (hr : 0 ≤ room ∧ room < (R : Int)) (hl : 0 ≤ l ∧ l < (L : Int)) : 0 < (onW us room l).length := by
  obtain ⟨y, hy, h1, h2⟩ := W.all room l hr.1 hr.2 hl.1 hl.2
  obtain ⟨i, hi⟩ := List.mem_iff_getElem?.mp hy
  refine List.length_pos_iff_exists_mem.mpr ⟨.int (i : Nat), List.mem_map.mpr ⟨(i, y), List.mem_filter.mpr ⟨?_, ?_⟩, rfl⟩⟩
  · refine List.mem_iff_getElem?.mpr ⟨i, ?_⟩
    rw [zip_range, hi]; rfl
  · unfold pW
    rw [h1, h2, decide_eq_true rfl, decide_eq_true rfl]; rfl
theorem cnt_step {b s j : Nat} (hs : 0 < s) : (j + 1 - b + (s - 1)) / s = (j - b + (s - 1)) / s + (if b ≤ j ∧ (j - b) % s = 0 then 1 else 0) := by
  by_cases hb : b ≤ j
  · have e1 : j + 1 - b = (j - b) + 1 := by omega
    rw [e1]
    generalize j - b = d
    have h := Nat.div_add_mod d s
    have hm := Nat.mod_lt d hs
    have e2 : d + 1 + (s - 1) = d + s := by omega
    rw [e2, Nat.add_div_right _ hs]
    by_cases c : d % s = 0
    · rw [if_pos ⟨hb, c⟩]
      have : (d + (s - 1)) / s = d / s := by
        have e3 : d + (s - 1) = (s - 1) + s * (d / s) := by omega
        rw [e3, Nat.add_mul_div_left _ _ hs, Nat.div_eq_of_lt (by omega)]; omega
      rw [this]
    · rw [if_neg fun z => c z.2]
      have : (d + (s - 1)) / s = d / s + 1 := by
        have e3 : d + (s - 1) = (d % s - 1) + s * (d / s + 1) := by rw [Nat.mul_add, Nat.mul_one]; omega
        rw [e3, Nat.add_mul_div_left _ _ hs, Nat.div_eq_of_lt (by omega)]; omega
      rw [this]
  · rw [if_neg fun z => hb z.1]
    have e1 : j + 1 - b = 0 := by omega
    have e2 : j - b = 0 := by omega
    rw [e1, e2, Nat.add_zero]
theorem wk_step {R L : Nat} {us : List Wy} {row : Sd} (W : Ws R L us) (w1 : Wd L row.1) (w2 : Wd L row.2) (hne : row.2 ≠ []) {n : Nat} {S0 S : Sto} (hn : n < S0.length) {qf qm j : Nat} (hf : S0.length ≤ qf) (hm : S0.length ≤ qm) (hfm : qf ≠ qm) (hj : j ≤ 1000)
    {room : Int} {w : List Int} {mm : List (Int × Nat)} (I : WI us row R n S0 qf qm j room w mm S) (hM : mm.length ≤ 1000) (a9 a10 a13 a14 a15 a16 a17 a18 : Option Dv) :
    ∃ room' w' mm' b10 S', WI us row R n S0 qf qm (j + 1) room' w' mm' S' ∧ mm'.length ≤ mm.length + 1 ∧
      bWk (eW n us row room qf qm j a9 a10 none none a13 a14 a15 a16 a17 a18) S = some (.nx (eW n us row room' qf qm (j + 1) a9 b10 none none a13 a14 a15 a16 a17 a18), S') := by
  have h2 := pos_of hne
  -- marks
  have stA : ∃ M1 S1, M1 = (if row.1.length ≤ j ∧ (j - row.1.length) % row.2.length = 0 then mm ++ [(room, j)] else mm) ∧ Old n S0 S1 ∧ S1[qf]? = some (.lst (w.map .int)) ∧ S1[qm]? = some (.lst (M1.map dM)) ∧
      ifS (andT (M.bind (geD (.int (j : Nat)) (.int (row.1.length : Nat))) asB) (M.bind (M.bind (modD (.int ((j : Int) - (row.1.length : Int))) (.int (row.2.length : Nat))) fun x => eqD x (.int 0)) asB)) (exprS (bmD appD (M.ret (.ref qm)) (M.ret [.tup [.int room, .int (j : Nat)]])) (eW n us row room qf qm j a9 a10 none none a13 a14 a15 a16 a17 a18)) (M.ret (.nx (eW n us row room qf qm j a9 a10 none none a13 a14 a15 a16 a17 a18))) S = some (.nx (eW n us row room qf qm j a9 a10 none none a13 a14 a15 a16 a17 a18), S1) := by
    by_cases c1 : row.1.length ≤ j
    · have ec : ((j : Int) - (row.1.length : Int)) % (row.2.length : Int) = (((j - row.1.length) % row.2.length : Nat) : Int) := by
        rw [show (j : Int) - (row.1.length : Int) = ((j - row.1.length : Nat) : Int) by omega, mod_nat]
      by_cases c2 : (j - row.1.length) % row.2.length = 0
      · have a1 := bm_app (S := S) (n := qm) (us := mm.map dM) (m := M.ret (.ref qm)) (k := M.ret [.tup [.int room, .int (j : Nat)]]) (w := .tup [.int room, .int (j : Nat)]) rfl rfl I.sm (by rw [List.length_map]; omega)
        refine ⟨mm ++ [(room, j)], S.set qm (.lst (mm.map dM ++ [.tup [.int room, .int (j : Nat)]])), by rw [if_pos ⟨c1, c2⟩], ?_, ?_, ?_, ?_⟩
        · refine I.o.step hm ?_ (fun k hk hkn hkq => by rw [List.getElem?_set_ne (Ne.symm hkq)]) (by rw [List.length_set]; exact Nat.le_refl _)
          obtain ⟨a, b, e, h⟩ := I.o.pot
          exact ⟨a, b, by rw [List.getElem?_set_ne (by omega)]; exact e, h⟩
        · rw [List.getElem?_set_ne (Ne.symm hfm)]; exact I.sf
        · rw [List.getElem?_set_self (List.getElem?_eq_some_iff.mp I.sm).1, List.map_append]; rfl
        · rw [geD_int, M.bind_ret, asB_bl, decide_eq_true (show (row.1.length : Int) ≤ (j : Int) by omega), andT_ret, if_pos rfl, modD_int _ _ (show (0 : Int) < (row.2.length : Int) by omega), ec, c2, M.bind_ret, eqD_int, M.bind_ret, asB_bl, ifS_ret, if_pos (show decide (((0 : Nat) : Int) = 0) = true from rfl)]
          exact expr_of a1
      · refine ⟨mm, S, by rw [if_neg fun z => c2 z.2], I.o, I.sf, I.sm, ?_⟩
        rw [geD_int, M.bind_ret, asB_bl, decide_eq_true (show (row.1.length : Int) ≤ (j : Int) by omega), andT_ret, if_pos rfl, modD_int _ _ (show (0 : Int) < (row.2.length : Int) by omega), ec, M.bind_ret, eqD_int, M.bind_ret, asB_bl, decide_eq_false (show ¬ (((j - row.1.length) % row.2.length : Nat) : Int) = 0 by omega), ifS_ret, if_neg Bool.false_ne_true]
        rfl
    · refine ⟨mm, S, by rw [if_neg fun z => c1 z.1], I.o, I.sf, I.sm, ?_⟩
      rw [geD_int, M.bind_ret, asB_bl, decide_eq_false (show ¬ (row.1.length : Int) ≤ (j : Int) by omega), andT_ret, if_neg Bool.false_ne_true, ifS_ret, if_neg Bool.false_ne_true]
      rfl
  obtain ⟨M1, S1, hM1, o1, f1, m1, runA⟩ := stA
  -- the way on
  have lin := letter_in w1 w2 hne j
  have pos := onW_pos W I.rr lin
  have hlen : (onW us room (letter row j)).length ≤ 64 := by
    unfold onW
    rw [List.length_map]
    refine Nat.le_trans (List.length_filter_le _ _) ?_
    rw [List.length_zip, List.length_range]
    have := W.few; omega
  have hpu : ∀ x ∈ onW us room (letter row j), x.pu = true := fun x hx => by
    obtain ⟨k, rfl, _⟩ := onW_mem hx; rfl
  have arg : Rn n (consA (callD 2 g_law_pick (M.ret [.ref n, .lst (onW us room (letter row j))])) (M.ret [])) fun ws => ∃ w, ws = [w] ∧ w ∈ onW us room (letter row j) := by
    rw [callD_ret, if_pos (show [Dv.ref n, .lst (onW us room (letter row j))].length = 2 from rfl)]
    exact Rn.cons (Q := fun ws => ws = []) (pick pos (by omega) hpu) (.ret rfl) fun w ws hw hws => ⟨w, by rw [hws], hw⟩
  obtain ⟨v, S2, hv, r2, p2, f2, same2, le2⟩ := app_step arg o1.pot f1 (by omega) (by rw [List.length_map]; have := I.len; omega)
  obtain ⟨k, rfl, hk, k1, k2⟩ := onW_mem hv
  have o2 := o1.step hf p2 same2 le2
  have m2 : S2[qm]? = some (.lst (M1.map dM)) := by rw [same2 qm (List.getElem?_eq_some_iff.mp m1).1 (by omega) (Ne.symm hfm)]; exact m1
  have kin : 0 ≤ (k : Int) ∧ (k : Int) < (us.length : Int) := ⟨by omega, by omega⟩
  have yin : wy us (k : Int) ∈ us := by
    unfold wy
    rw [Int.toNat_natCast, List.getD_eq_getElem?_getD, List.getElem?_eq_getElem hk]
    exact List.getElem_mem hk
  have yr := (W.rng _ yin).2.2.1
  refine ⟨(wy us (k : Int)).2.2.1, w ++ [(k : Int)], M1, some (.lst (onW us room (letter row j))), S2, ⟨o2, by rw [f2, List.map_append]; rfl, m2, by rw [List.length_append, I.len]; rfl, ?_, ?_, ?_, yr, ?_, ?_, ?_, ?_⟩, ?_, ?_⟩
  · intro i hi
    rcases List.mem_append.mp hi with hi | hi
    · exact I.inw i hi
    · rw [List.mem_singleton.mp hi]; exact kin
  · rw [jn_append, I.jn, Option.bind_some, jn_cons, if_pos k1]; rfl
  · rw [lets_append, I.lt, Bool.true_and, lets_cons, I.len, Nat.zero_add, decide_eq_true k2]; rfl
  · intro m hm
    rw [hM1] at hm
    split at hm
    · rename_i c
      rcases List.mem_append.mp hm with hm | hm
      · exact (I.mks m hm).app _
      · rw [List.mem_singleton.mp hm]
        exact ⟨c.1, c.2, by rw [List.length_append, I.len]; simp, by rw [List.take_append_of_le_length (by rw [I.len]; exact Nat.le_refl _), List.take_of_length_le (by rw [I.len]; exact Nat.le_refl _)]; exact I.jn, I.rr.1, I.rr.2⟩
    · exact (I.mks m hm).app _
  · rw [cnt_step h2, hM1, ← I.ml]
    split <;> simp
  · intro m hm
    rw [hM1] at hm
    split at hm
    · rcases List.mem_append.mp hm with hm | hm
      · have := I.ms m hm; omega
      · rw [List.mem_singleton.mp hm]; exact Nat.lt_succ_self j
    · have := I.ms m hm; omega
  · rw [hM1]
    split
    · refine List.pairwise_append.mpr ⟨I.mp, List.pairwise_singleton _ _, fun a ha b hb => ?_⟩
      rw [List.mem_singleton.mp hb]
      exact I.ms a ha
    · exact I.mp
  · rw [hM1]; split <;> simp
  · unfold bWk
    have lt1 := len_tI row.1
    have lt2 := len_tI row.2
    have e0 : ∀ {F : Fl} {S' : Sto}, seqD (ifS (andT (M.bind (geD (.int (j : Nat)) (.int (row.1.length : Nat))) asB) (M.bind (M.bind (modD (.int ((j : Int) - (row.1.length : Int))) (.int (row.2.length : Nat))) fun x => eqD x (.int 0)) asB)) (exprS (bmD appD (M.ret (.ref qm)) (M.ret [.tup [.int room, .int (j : Nat)]])) (eW n us row room qf qm j a9 a10 none none a13 a14 a15 a16 a17 a18)) (M.ret (.nx (eW n us row room qf qm j a9 a10 none none a13 a14 a15 a16 a17 a18)))) (fun env => seqD (setS 10 (lcD (enmD (consA (rdE 1 env) (M.ret []))) [11, 12] (tupG 2 (gsCons (setE 11) (gsCons (setE 12) (gsNil)))) (fun env => andT (M.bind (M.bind (M.bind (rdE 12 env) fun x => M.bind (M.ret (.int 0)) fun y => ixA x y) fun x => M.bind (rdE 3 env) fun y => eqD x y) asB) (M.bind (M.bind (M.bind (rdE 12 env) fun x => M.bind (M.ret (.int 1)) fun y => ixA x y) fun x => M.bind (callD 2 g_law_letter (consA (rdE 2 env) (consA (rdE 6 env) (M.ret [])))) fun y => eqD x y) asB)) (fun env => rdE 11 env) env) env) fun env => seqD (exprS (bmD appD (rdE 4 env) (consA (callD 2 g_law_pick (consA (rdE 0 env) (consA (rdE 10 env) (M.ret [])))) (M.ret []))) env) fun env => asgS (tupG 2 (gsCons (setE 3) (gsCons (setE 6) (gsNil)))) (tupD (consA (M.bind (M.bind (rdE 1 env) fun x => M.bind (M.bind (rdE 4 env) fun x => M.bind (M.bind (M.ret (.int 1)) negD) fun y => ixA x y) fun y => ixA x y) fun x => M.bind (M.ret (.int 2)) fun y => ixA x y) (consA (M.bind (rdE 6 env) fun x => M.bind (M.ret (.int 1)) fun y => addD x y) (M.ret [])))) env) S = some (F, S') →
        (fun env => seqD (ifS (andT (M.bind (M.bind (rdE 6 env) fun x => M.bind (M.bind (consA (rdE 7 env) (M.ret [])) lenA) fun y => geD x y) asB) (M.bind (M.bind (M.bind (M.bind (consA (M.bind (rdE 6 env) fun x => M.bind (M.bind (consA (rdE 7 env) (M.ret [])) lenA) fun y => subD x y) (M.ret [])) intD) fun x => M.bind (M.bind (consA (rdE 8 env) (M.ret [])) lenA) fun y => modD x y) fun x => M.bind (M.ret (.int 0)) fun y => eqD x y) asB)) (exprS (bmD appD (rdE 5 env) (consA (tupD (consA (rdE 3 env) (consA (rdE 6 env) (M.ret [])))) (M.ret []))) env) (nxD env)) fun env => seqD (setS 10 (lcD (enmD (consA (rdE 1 env) (M.ret []))) [11, 12] (tupG 2 (gsCons (setE 11) (gsCons (setE 12) (gsNil)))) (fun env => andT (M.bind (M.bind (M.bind (rdE 12 env) fun x => M.bind (M.ret (.int 0)) fun y => ixA x y) fun x => M.bind (rdE 3 env) fun y => eqD x y) asB) (M.bind (M.bind (M.bind (rdE 12 env) fun x => M.bind (M.ret (.int 1)) fun y => ixA x y) fun x => M.bind (callD 2 g_law_letter (consA (rdE 2 env) (consA (rdE 6 env) (M.ret [])))) fun y => eqD x y) asB)) (fun env => rdE 11 env) env) env) fun env => seqD (exprS (bmD appD (rdE 4 env) (consA (callD 2 g_law_pick (consA (rdE 0 env) (consA (rdE 10 env) (M.ret [])))) (M.ret []))) env) fun env => asgS (tupG 2 (gsCons (setE 3) (gsCons (setE 6) (gsNil)))) (tupD (consA (M.bind (M.bind (rdE 1 env) fun x => M.bind (M.bind (rdE 4 env) fun x => M.bind (M.bind (M.ret (.int 1)) negD) fun y => ixA x y) fun y => ixA x y) fun x => M.bind (M.ret (.int 2)) fun y => ixA x y) (consA (M.bind (rdE 6 env) fun x => M.bind (M.ret (.int 1)) fun y => addD x y) (M.ret [])))) env) (eW n us row room qf qm j a9 a10 none none a13 a14 a15 a16 a17 a18) S = some (F, S') := by
      intro F S' h
      have e : ∀ {α : Type} (f g : En → α) (x : En), f x = g x → f x = g x := fun _ _ _ h => h
      refine (congrFun (?_ : _ = _) S).trans h
      refine congrArg (fun m => seqD m _) ?_
      unfold eW
      simp only [rdE_zero, rdE_succ, consA_ret, M.bind_ret, lt1, lt2, subD_int, intD_int, tupD_2, nxD_def]
    refine e0 ?_
    refine (seq_of runA).trans ?_
    have lc : lcD (enmD (consA (rdE 1 (eW n us row room qf qm j a9 a10 none none a13 a14 a15 a16 a17 a18)) (M.ret []))) [11, 12] (tupG 2 (gsCons (setE 11) (gsCons (setE 12) (gsNil)))) (fun env => andT (M.bind (M.bind (M.bind (rdE 12 env) fun x => M.bind (M.ret (.int 0)) fun y => ixA x y) fun x => M.bind (rdE 3 env) fun y => eqD x y) asB) (M.bind (M.bind (M.bind (rdE 12 env) fun x => M.bind (M.ret (.int 1)) fun y => ixA x y) fun x => M.bind (callD 2 g_law_letter (consA (rdE 2 env) (consA (rdE 6 env) (M.ret [])))) fun y => eqD x y) asB)) (fun env => rdE 11 env) (eW n us row room qf qm j a9 a10 none none a13 a14 a15 a16 a17 a18) = M.ret (.lst (onW us room (letter row j))) := by
      refine lcD_ret ((List.range us.length).zip us) (fun p => Dv.tup [.int (p.1 : Nat), dW p.2]) (pW room (letter row j)) (fun q => .int (q.1 : Nat)) ?_ (by rw [List.length_zip, List.length_range]; have := W.few; omega) fun q hq => ⟨eW n us row room qf qm j a9 a10 (some (.int (q.1 : Nat))) (some (dW q.2)) a13 a14 a15 a16 a17 a18, rfl, ?_, fun _ => rfl⟩
      · show enmD (M.ret [.lst (us.map dW)]) = _
        rw [← enmW_map]; rfl
      · unfold eW pW
        simp only [rdE_zero, rdE_succ, consA_ret, M.bind_ret, dW_0, dW_1, eqD_int, asB_bl, callD_ret, List.length_cons, List.length_nil, if_pos, q_law_letter hne, andT_ret]
        by_cases c : q.2.1 = room
        · rw [decide_eq_true c, if_pos rfl, Bool.true_and]
        · rw [decide_eq_false c, if_neg Bool.false_ne_true, Bool.false_and]
    refine (seq_of (congrFun (congrArg (fun m => setS 10 m (eW n us row room qf qm j a9 a10 none none a13 a14 a15 a16 a17 a18)) lc) S1)).trans ?_
    have e3 : (eW n us row room qf qm j a9 a10 none none a13 a14 a15 a16 a17 a18).set 10 (some (.lst (onW us room (letter row j)))) = eW n us row room qf qm j a9 (some (.lst (onW us room (letter row j)))) none none a13 a14 a15 a16 a17 a18 := rfl
    rw [e3]
    refine (seq_of (expr_of r2)).trans ?_
    have ixl : ixA (.ref qf) (.int (-1)) S2 = some (.int (k : Int), S2) := by
      rw [ixA_ref f2]
      exact ix_ref f2 (atI_end (by rw [List.getLast?_append]; rfl))
    refine asg_of (w := .tup [.int (wy us (k : Int)).2.2.1, .int ((j + 1 : Nat) : Int)]) (S1 := S2) ?_ rfl
    unfold eW
    simp only [rdE_zero, rdE_succ, consA_ret, M.bind_ret, negD_int, addD_int]
    refine tup_of ?_ (by simp)
    rw [consA_def, M.bind_assoc, M.bind_assoc, M.bind_of ixl, ix_wyL kin, M.bind_ret, dW_2, M.bind_ret]
    show some ([Dv.int (wy us (k : Int)).2.2.1, .int ((j : Int) + 1)], S2) = _
    rw [show (j : Int) + 1 = ((j + 1 : Nat) : Int) by omega]
end K31
namespace K31
open PySem PySem.Spec PyProof.Rows L2 DD
variable [IW : HasW]
@[simp] theorem dM_0 (m : Int × Nat) : ixA (dM m) (.int 0) = M.ret (.int m.1) := by unfold dM; rw [ixA_tup]; rfl
@[simp] theorem dM_1 (m : Int × Nat) : ixA (dM m) (.int 1) = M.ret (.int (m.2 : Nat)) := by unfold dM; rw [ixA_tup]; rfl
def dP (p : (Int × Nat) × (Int × Nat)) : Dv := .tup [dM p.1, dM p.2]
def Good (ms : List (Int × Nat)) (p : (Int × Nat) × (Int × Nat)) : Prop := p.1 ∈ ms ∧ p.2 ∈ ms ∧ p.1.2 < p.2.2 ∧ p.1.1 = p.2.1
noncomputable def bPr : En → M Fl := fun env => exprS (bmD extD (rdE 13 env) (consA (lcD (M.bind (M.bind (rdE 5 env) fun x => M.bind (M.bind (M.bind (rdE 14 env) fun x => M.bind (M.ret (.int 1)) fun y => addD x y) asI) fun i => M.bind (M.ret none) fun j => slD x i j) srD) [16] (setE 16) (fun env => M.bind (M.bind (M.bind (rdE 15 env) fun x => M.bind (M.ret (.int 0)) fun y => ixA x y) fun x => M.bind (M.bind (rdE 16 env) fun x => M.bind (M.ret (.int 0)) fun y => ixA x y) fun y => eqD x y) asB) (fun env => tupD (consA (rdE 15 env) (consA (rdE 16 env) (M.ret [])))) env) (M.ret []))) env
def eP (n : Nat) (us : List Wy) (row : Sd) (room : Int) (qf : Nat) (ms : List (Int × Nat)) (j : Nat) (a9 a10 : Option Dv) (qp : Nat) (a14 a15 : Option Dv) : En := [some (.ref n), some (.lst (us.map dW)), some (dS row), some (.int room), some (.ref qf), some (.lst (ms.map dM)), some (.int (j : Nat)), some (tI row.1), some (tI row.2), a9, a10, none, none, some (.ref qp), a14, a15, none, none, none]
def newP (ms : List (Int × Nat)) (i : Nat) (x : Int × Nat) : List ((Int × Nat) × (Int × Nat)) := ((ms.drop (i + 1)).filter fun y => decide (x.1 = y.1)).map fun y => (x, y)
theorem newP_good {ms : List (Int × Nat)} (pw : ms.Pairwise fun x y => x.2 < y.2) {i : Nat} {x : Int × Nat} (hx : ms[i]? = some x) {p : (Int × Nat) × (Int × Nat)} (hp : p ∈ newP ms i x) : Good ms p := by
  obtain ⟨y, hy, rfl⟩ := List.mem_map.mp hp
  obtain ⟨hd, he⟩ := List.mem_filter.mp hy
  rw [decide_eq_true_eq] at he
  obtain ⟨k, hk⟩ := List.mem_iff_getElem?.mp hd
  rw [List.getElem?_drop] at hk
  obtain ⟨h1, e1⟩ := List.getElem?_eq_some_iff.mp hx
  obtain ⟨h2, e2⟩ := List.getElem?_eq_some_iff.mp hk
  refine ⟨by rw [← e1]; exact List.getElem_mem h1, by rw [← e2]; exact List.getElem_mem h2, ?_, he⟩
  have := List.pairwise_iff_getElem.mp pw i (i + 1 + k) h1 h2 (by omega)
  rw [e1, e2] at this
  exact this
theorem newP_all {ms : List (Int × Nat)} {i k : Nat} {x y : Int × Nat} (hk : i < k) (hy : ms[k]? = some y) (he : x.1 = y.1) : (x, y) ∈ newP ms i x := by
  refine List.mem_map.mpr ⟨y, List.mem_filter.mpr ⟨?_, by rw [decide_eq_true he]⟩, rfl⟩
  refine List.mem_iff_getElem?.mpr ⟨k - (i + 1), ?_⟩
  rw [List.getElem?_drop, show i + 1 + (k - (i + 1)) = k by omega]
  exact hy
theorem pr_step {n : Nat} {us : List Wy} {row : Sd} {room : Int} {qf j : Nat} {ms : List (Int × Nat)} {a9 a10 : Option Dv} {qp : Nat} {S : Sto} {ps : List ((Int × Nat) × (Int × Nat))} (hs : S[qp]? = some (.lst (ps.map dP))) (hl : ps.length ≤ 1000) (hm : ms.length ≤ 100) (i : Nat) (x : Int × Nat) :
    bPr (eP n us row room qf ms j a9 a10 qp (some (.int (i : Nat))) (some (dM x))) S = some (.nx (eP n us row room qf ms j a9 a10 qp (some (.int (i : Nat))) (some (dM x))), S.set qp (.lst ((ps ++ newP ms i x).map dP))) := by
  have e1 : (i : Int) + 1 = ((i + 1 : Nat) : Int) := by omega
  obtain ⟨x0, hx0⟩ : ∃ x0, x0 = x := ⟨x, rfl⟩
  have lc : lcD (M.bind (M.bind (rdE 5 (eP n us row room qf ms j a9 a10 qp (some (.int (i : Nat))) (some (dM x)))) fun x => M.bind (M.bind (M.bind (rdE 14 (eP n us row room qf ms j a9 a10 qp (some (.int (i : Nat))) (some (dM x0)))) fun x => M.bind (M.ret (.int 1)) fun y => addD x y) asI) fun i => M.bind (M.ret none) fun j => slD x i j) srD) [16] (setE 16) (fun env => M.bind (M.bind (M.bind (rdE 15 env) fun x => M.bind (M.ret (.int 0)) fun y => ixA x y) fun x => M.bind (M.bind (rdE 16 env) fun x => M.bind (M.ret (.int 0)) fun y => ixA x y) fun y => eqD x y) asB) (fun env => tupD (consA (rdE 15 env) (consA (rdE 16 env) (M.ret [])))) (eP n us row room qf ms j a9 a10 qp (some (.int (i : Nat))) (some (dM x))) = M.ret (.lst (((ms.drop (i + 1)).filter fun y => decide (x.1 = y.1)).map fun y => .tup [dM x, dM y])) := by
    refine lcD_ret (ms.drop (i + 1)) dM (fun y => decide (x.1 = y.1)) (fun y => .tup [dM x, dM y]) ?_ (by rw [List.length_drop]; omega) fun y hy => ⟨(eP n us row room qf ms j a9 a10 qp (some (.int (i : Nat))) (some (dM x))).set 16 (some (dM y)), rfl, ?_, fun _ => ?_⟩
    · subst hx0
      unfold eP
      simp only [rdE_zero, rdE_succ, M.bind_ret, addD_int, asI_int, slD_lst, e1, cut_from, ← List.map_drop]
      rfl
    · unfold eP
      simp only [List.set_cons_succ, List.set_cons_zero, rdE_zero, rdE_succ, M.bind_ret, dM_0, eqD_int, asB_bl]
    · unfold eP
      simp only [List.set_cons_succ, List.set_cons_zero, rdE_zero, rdE_succ, consA_ret, tupD_2]
  unfold bPr
  rw [show rdE 13 (eP n us row room qf ms j a9 a10 qp (some (.int (i : Nat))) (some (dM x))) = M.ret (.ref qp) from rfl]
  have ke : (((ms.drop (i + 1)).filter fun y => decide (x.1 = y.1)).map fun y => Dv.tup [dM x, dM y]) = (newP ms i x).map dP := by unfold newP; rw [List.map_map]; rfl
  have nl : (newP ms i x).length ≤ 100 := by
    unfold newP
    rw [List.length_map]
    refine Nat.le_trans (List.length_filter_le _ _) ?_
    rw [List.length_drop]; omega
  have b := bm_ext (S := S) (n := qp) (us := ps.map dP) (vs := (newP ms i x).map dP) (m := M.ret (.ref qp)) (k := M.ret [.lst ((newP ms i x).map dP)]) (w := .lst ((newP ms i x).map dP)) rfl rfl hs rfl (by rw [List.length_map, List.length_map]; omega)
  rw [List.map_append]
  refine expr_of (w := .non) ?_
  rw [ke] at lc
  subst hx0
  refine (congrFun (congrArg (fun m => bmD extD (M.ret (.ref qp)) m) ((congrArg (fun m => consA m (M.ret [])) lc).trans (consA_ret _ _))) S).trans b
theorem pairs_run {n : Nat} {us : List Wy} {row : Sd} {room : Int} {qf j : Nat} {ms : List (Int × Nat)} (pw : ms.Pairwise fun x y => x.2 < y.2) (hm : ms.length ≤ 6) {a9 a10 : Option Dv} {qp : Nat} {S0 S : Sto} (o : Old n S0 S) (hq : S0.length ≤ qp) (hn : n < S0.length) (hs : S[qp]? = some (.lst [])) {w : List Dv} (hf : S[qf]? = some (.lst w)) (hqf : qf ≠ qp) :
    ∃ (ps : List ((Int × Nat) × (Int × Nat))) (a14 a15 : Option Dv) (S' : Sto), Old n S0 S' ∧ S'[qf]? = some (.lst w) ∧ S'[qp]? = some (.lst (ps.map dP)) ∧ (∀ p ∈ ps, Good ms p) ∧ ps.length ≤ 36 ∧ (∀ (i k : Nat) (x y : Int × Nat), ms[i]? = some x → ms[k]? = some y → i < k → x.1 = y.1 → (x, y) ∈ ps) ∧
      forD (enmD (M.ret [.lst (ms.map dM)])) (tupG 2 (gsCons (setE 14) (gsCons (setE 15) (gsNil)))) bPr (eP n us row room qf ms j a9 a10 qp none none) S = some (.nx (eP n us row room qf ms j a9 a10 qp a14 a15), S') := by
  obtain ⟨e', S', ⟨a14, a15, ps, rfl, o1, f1, s1, g1, l1, c1⟩, run⟩ := forD_idxS (S := S) (S0 := S) (env := eP n us row room qf ms j a9 a10 qp none none) (m := enmD (M.ret [.lst (ms.map dM)])) (g := tupG 2 (gsCons (setE 14) (gsCons (setE 15) (gsNil)))) (b := bPr)
    ((List.range ms.length).zip ms) (fun p => Dv.tup [.int (p.1 : Nat), dM p.2]) (fun i e S => ∃ a14 a15, ∃ ps : List ((Int × Nat) × (Int × Nat)), e = eP n us row room qf ms j a9 a10 qp a14 a15 ∧ Old n S0 S ∧ S[qf]? = some (.lst w) ∧ S[qp]? = some (.lst (ps.map dP)) ∧ (∀ p ∈ ps, Good ms p) ∧ ps.length ≤ i * 6 ∧ (∀ (i' k : Nat) (x y : Int × Nat), i' < i → ms[i']? = some x → ms[k]? = some y → i' < k → x.1 = y.1 → (x, y) ∈ ps))
    (by rw [← enmW_map]; rfl) ⟨none, none, [], rfl, o, hf, hs, fun _ z => (nomatch z), by simp, fun i' k x y h => by omega⟩ (by
      rintro i ⟨i0, x⟩ hx _ S ⟨a14, a15, ps, rfl, o1, f1, s1, g1, l1, c1⟩
      rw [zip_range] at hx
      obtain ⟨x', hx', e⟩ := Option.map_eq_some_iff.mp hx
      cases e
      have hi : i < ms.length := (List.getElem?_eq_some_iff.mp hx').1
      have st := pr_step (n := n) (us := us) (row := row) (room := room) (qf := qf) (j := j) (a9 := a9) (a10 := a10) s1 (by omega) (ms := ms) (by omega) i x
      refine ⟨_, S.set qp (.lst ((ps ++ newP ms i x).map dP)), ⟨some (.int (i : Nat)), some (dM x), ps ++ newP ms i x, rfl, ?_, ?_, ?_, ?_, ?_, ?_⟩, ?_⟩
      · refine o1.step hq ?_ (fun k hk hkn hkq => by rw [List.getElem?_set_ne (Ne.symm hkq)]) (by rw [List.length_set]; exact Nat.le_refl _)
        obtain ⟨a, b, e, h⟩ := o1.pot
        exact ⟨a, b, by rw [List.getElem?_set_ne (by omega)]; exact e, h⟩
      · rw [List.getElem?_set_ne (Ne.symm hqf)]; exact f1
      · rw [List.getElem?_set_self (List.getElem?_eq_some_iff.mp s1).1]
      · intro p hp
        rcases List.mem_append.mp hp with hp | hp
        · exact g1 p hp
        · exact newP_good pw hx' hp
      · have nl : (newP ms i x).length ≤ 6 := by
          unfold newP
          rw [List.length_map]
          refine Nat.le_trans (List.length_filter_le _ _) ?_
          rw [List.length_drop]; omega
        rw [List.length_append]; omega
      · intro i' k x2 y2 h1 h2 h3 h4 h5
        by_cases c : i' < i
        · exact List.mem_append_left _ (c1 i' k x2 y2 c h2 h3 h4 h5)
        · have : i' = i := by omega
          subst this
          rw [hx'] at h2
          cases h2
          exact List.mem_append_right _ (newP_all h4 h3 h5)
      · exact st)
  rw [List.length_zip, List.length_range, Nat.min_self] at l1 c1
  refine ⟨ps, a14, a15, S', o1, f1, s1, g1, (by omega), fun i k x y h1 h2 h3 h4 => c1 i k x y (List.getElem?_eq_some_iff.mp h1).1 h1 h2 h3 h4, run⟩
theorem pigeon {ms : List (Int × Nat)} (h : 4 ≤ ms.length) (hr : ∀ m ∈ ms, 0 ≤ m.1 ∧ m.1 < 3) : ∃ (i k : Nat) (x y : Int × Nat), ms[i]? = some x ∧ ms[k]? = some y ∧ i < k ∧ x.1 = y.1 := by
  apply Classical.byContradiction
  intro hno
  have pw : ms.Pairwise fun x y => x.1 ≠ y.1 := by
    refine List.pairwise_iff_getElem.mpr fun i k hi hk hik e => hno ⟨i, k, ms[i], ms[k], List.getElem?_eq_getElem hi, List.getElem?_eq_getElem hk, hik, e⟩
  have nd : (ms.map fun m => m.1.toNat).Nodup := List.pairwise_map.mpr (List.Pairwise.imp_of_mem (fun {a b} ha hb hne e => hne (by
    have := hr a ha; have := hr b hb; omega)) pw)
  have := L2.nat_nodup_len _ (List.range 3) nd fun x hx => by
    obtain ⟨m, hm, rfl⟩ := List.mem_map.mp hx
    have := hr m hm
    exact List.mem_range.mpr (by omega)
  rw [List.length_map, List.length_range] at this
  omega
end K31
namespace K31
open PySem PySem.Spec PyProof.Rows L2 DD
variable [IW : HasW]
def isTold (us : List Wy) (row : Sd) (v : Dv) : Prop := ∃ h l : List Int, v = .tup [.lst (h.map .int), .lst (l.map .int)] ∧ In us h ∧ In us l ∧ l ≠ [] ∧ h.length ≤ 30 ∧ l.length ≤ 30 ∧ resB us row h l = true
theorem told_math {us : List Wy} {row : Sd} {R : Nat} {w : List Int} {x y : Int × Nat} (hx : Mk us row R w x) (hy : Mk us row R w y) (hlt : x.2 < y.2) (he : x.1 = y.1) (hw : In us w) (ht : lets us row 0 w = true) (hl : w.length ≤ 30) (hne : row.2 ≠ []) :
    isTold us row (.tup [.lst ((w.take x.2).map .int), .lst (((w.drop x.2).take (y.2 - x.2)).map .int)]) := by
  have hyl := hy.le
  have lx : (w.take x.2).length = x.2 := by rw [List.length_take]; omega
  have ll : ((w.drop x.2).take (y.2 - x.2)).length = y.2 - x.2 := by rw [List.length_take, List.length_drop]; omega
  have cat : w.take x.2 ++ (w.drop x.2).take (y.2 - x.2) = w.take y.2 := by
    rw [← List.take_add, show x.2 + (y.2 - x.2) = y.2 by omega]
  have lne : (w.drop x.2).take (y.2 - x.2) ≠ [] := fun z => by rw [z, List.length_nil] at ll; omega
  have lt : lets us row 0 (w.take y.2) = true := by
    have := lets_append us row (w.take y.2) (w.drop y.2) 0
    rw [List.take_append_drop, ht] at this
    exact (Bool.and_eq_true_iff.mp this.symm).1
  have jx := hx.jn
  have jy := hy.jn
  have cl : closed us (w.take x.2) ((w.drop x.2).take (y.2 - x.2)) = true := by
    unfold closed
    rw [cat, jy, decide_eq_true_eq, ← he]
    rw [← cat, jn_append, jx, Option.bind_some] at jy
    obtain ⟨i, l', e⟩ := List.exists_cons_of_ne_nil lne
    rw [e] at jy ⊢
    rw [jn_cons] at jy
    by_cases c : (wy us i).1 = x.1
    · rw [← c]; rfl
    · rw [if_neg c] at jy; cases jy
  have ln : lens row (w.take x.2) ((w.drop x.2).take (y.2 - x.2)) = true := by
    unfold lens
    rw [lx, ll, decide_eq_true hx.b, decide_eq_true hx.s]
    have d1 := Nat.dvd_of_mod_eq_zero hx.s
    have d2 := Nat.dvd_of_mod_eq_zero hy.s
    have d3 := Nat.dvd_sub d2 d1
    have e3 : y.2 - row.1.length - (x.2 - row.1.length) = y.2 - x.2 := by have := hx.b; omega
    rw [e3] at d3
    rw [decide_eq_true (Nat.mod_eq_zero_of_dvd d3)]; rfl
  refine ⟨_, _, rfl, fun i hi => hw i ((List.take_sublist _ _).subset hi), fun i hi => hw i ((List.drop_sublist _ _).subset ((List.take_sublist _ _).subset hi)), lne, by omega, by omega, ?_⟩
  unfold resB
  rw [ln, cl, cat, lt]; rfl
theorem q_walk {n R L : Nat} {us : List Wy} {row : Sd} (W : Ws R L us) (hR3 : R ≤ 3) (w1 : Wd L row.1) (w2 : Wd L row.2) (hne : row.2 ≠ []) (l1 : row.1.length ≤ 2) (l2 : row.2.length ≤ 4) : Rn n (g_law_walk [.ref n, .lst (us.map dW), dS row]) (isTold us row) := by
  intro S0 h0
  have hn := h0.lt
  have h2 := pos_of hne
  have hs : startE N_law_walk.length [.ref n, .lst (us.map dW), dS row] = [some (.ref n), some (.lst (us.map dW)), some (dS row), none, none, none, none, none, none, none, none, none, none, none, none, none, none, none, none] := rfl
  have o0 : Old n S0 (S0 ++ [.lst []] ++ [.lst []]) := ⟨by
    obtain ⟨a, b, e, r⟩ := h0
    exact ⟨a, b, by rw [List.append_assoc, List.getElem?_append_left hn]; exact e, r⟩, by simp, fun k hk _ => by rw [List.append_assoc, List.getElem?_append_left hk]⟩
  have hq0 : (S0 ++ [MO.lst []] ++ [.lst []])[S0.length]? = some (.lst []) := get_push (last_at S0 _) _
  have hq1 : (S0 ++ [MO.lst []] ++ [.lst []])[S0.length + 1]? = some (.lst []) := by
    have := last_at (S0 ++ [MO.lst []]) (.lst [])
    rw [List.length_append] at this
    exact this
  have I0 : WI us row R n S0 S0.length (S0.length + 1) 0 0 [] [] (S0 ++ [.lst []] ++ [.lst []]) := ⟨o0, hq0, hq1, rfl, (fun _ z => nomatch z), rfl, rfl, ⟨by decide, by have := W.R1; omega⟩, (fun _ z => nomatch z), by
    rw [Nat.zero_sub, Nat.zero_add, Nat.div_eq_of_lt (by omega)]; rfl, (fun _ z => nomatch z), .nil⟩
  obtain ⟨T, hT⟩ : ∃ T, T = row.1.length + 5 * row.2.length := ⟨_, rfl⟩
  have hT22 : T ≤ 22 := by omega
  obtain ⟨e1, S1, ⟨room, w, mm, a9, a10, rfl, I, hmm⟩, run1⟩ := forD_idxS (S := S0 ++ [.lst []] ++ [.lst []]) (S0 := S0 ++ [.lst []] ++ [.lst []]) (env := eW n us row 0 S0.length (S0.length + 1) 0 none none none none none none none none none none) (m := rng1 (M.ret [.int (T : Int)])) (g := setE 9) (b := bWk)
    (List.range T) (fun i => .int (i : Nat)) (fun j e S => ∃ room w mm a9 a10, e = eW n us row room S0.length (S0.length + 1) j a9 a10 none none none none none none none none ∧ WI us row R n S0 S0.length (S0.length + 1) j room w mm S ∧ mm.length ≤ j)
    (rngN T (by omega) _) ⟨0, [], [], none, none, rfl, I0, Nat.le_refl _⟩ (by
      rintro j i0 hx _ S ⟨room, w, mm, a9, a10, rfl, I, hmm⟩
      obtain ⟨hj, rfl⟩ := range_at hx
      obtain ⟨room', w', mm', b10, S', I', hl, run⟩ := wk_step W w1 w2 hne hn (Nat.le_refl _) (Nat.le_succ _) (by omega) (by omega) I (by omega) (some (.int (i0 : Nat))) a10 none none none none none none
      refine ⟨_, S', ⟨room', w', mm', some (.int (i0 : Nat)), b10, rfl, I', by omega⟩, ?_⟩
      have e : M.bind (setE 9 (.int (i0 : Nat)) (eW n us row room S0.length (S0.length + 1) i0 a9 a10 none none none none none none none none)) bWk = bWk (eW n us row room S0.length (S0.length + 1) i0 (some (.int (i0 : Nat))) a10 none none none none none none none none) := by
        rw [setE_def, M.bind_ret]; rfl
      rw [e]
      exact run)
  rw [List.length_range] at I hmm run1
  -- the last mark
  obtain ⟨ms, hms⟩ : ∃ ms, ms = mm ++ [(room, T)] := ⟨_, rfl⟩
  have mks : ∀ m ∈ ms, Mk us row R w m := fun m hm => by
    rw [hms] at hm
    rcases List.mem_append.mp hm with hm | hm
    · exact I.mks m hm
    · rw [List.mem_singleton.mp hm]
      refine ⟨by show row.1.length ≤ T; omega, ?_, by show T ≤ w.length; rw [I.len]; exact Nat.le_refl _, ?_, I.rr.1, I.rr.2⟩
      · show (T - row.1.length) % row.2.length = 0
        rw [show T - row.1.length = 5 * row.2.length by omega, Nat.mul_mod_left]
      · show jn us 0 (w.take T) = some room
        rw [List.take_of_length_le (by rw [I.len]; exact Nat.le_refl _)]
        exact I.jn
  have pw : ms.Pairwise fun x y => x.2 < y.2 := by
    rw [hms]
    refine List.pairwise_append.mpr ⟨I.mp, List.pairwise_singleton _ _, fun a ha b hb => ?_⟩
    rw [List.mem_singleton.mp hb]
    exact I.ms a ha
  have six : ms.length = 6 := by
    rw [hms, List.length_append, I.ml, show T - row.1.length + (row.2.length - 1) = (row.2.length - 1) + row.2.length * 5 by rw [hT]; omega, Nat.add_mul_div_left _ _ h2, Nat.div_eq_of_lt (by omega)]
    rfl
  have a1 := bm_app (S := S1) (n := S0.length + 1) (us := mm.map dM) (m := M.ret (.ref (S0.length + 1))) (k := M.ret [dM (room, T)]) (w := dM (room, T)) rfl rfl I.sm (by rw [List.length_map]; omega)
  have m1l : S0.length + 1 < S1.length := (List.getElem?_eq_some_iff.mp I.sm).1
  have f1l : S0.length < S1.length := (List.getElem?_eq_some_iff.mp I.sf).1
  obtain ⟨S2, hS2⟩ : ∃ S2, S2 = S1.set (S0.length + 1) (.lst (mm.map dM ++ [dM (room, T)])) := ⟨_, rfl⟩
  rw [← hS2] at a1
  have len2 : S2.length = S1.length := by rw [hS2, List.length_set]
  have m2 : S2[S0.length + 1]? = some (.lst (ms.map dM)) := by rw [hS2, List.getElem?_set_self m1l, hms, List.map_append]; rfl
  have f2 : S2[S0.length]? = some (.lst (w.map .int)) := by rw [hS2, List.getElem?_set_ne (by omega)]; exact I.sf
  have o2 : Old n S0 S2 := by
    rw [hS2]
    refine I.o.step (q := S0.length + 1) (by omega) ?_ (fun k hk hkn hkq => by rw [List.getElem?_set_ne (Ne.symm hkq)]) (by rw [List.length_set]; exact Nat.le_refl _)
    obtain ⟨a, b, e, h⟩ := I.o.pot
    exact ⟨a, b, by rw [List.getElem?_set_ne (by omega)]; exact e, h⟩
  have n3 := new_ret [] (by simp) S2
  have m3 : (S2 ++ [.lst []])[S0.length + 1]? = some (.lst (ms.map dM)) := get_push m2 _
  have f3 : (S2 ++ [.lst []])[S0.length]? = some (.lst (w.map .int)) := get_push f2 _
  obtain ⟨S4, hS4⟩ : ∃ S4, S4 = (S2 ++ [MO.lst []]).set (S0.length + 1) .gone := ⟨_, rfl⟩
  have f4 : S4[S0.length]? = some (.lst (w.map .int)) := by rw [hS4, List.getElem?_set_ne (by omega)]; exact f3
  have p4 : S4[S2.length]? = some (.lst []) := by rw [hS4, List.getElem?_set_ne (by omega)]; exact last_at S2 _
  have o4 : Old n S0 S4 := by
    rw [hS4]
    have o3 : Old n S0 (S2 ++ [.lst []]) := by
      have := old_push o2.pot (.lst [])
      exact ⟨this.pot, Nat.le_trans o2.len this.len, fun k hk hk2 => by rw [this.same k (by have := o2.len; omega) hk2]; exact o2.same k hk hk2⟩
    refine o3.step (q := S0.length + 1) (by omega) ?_ (fun k hk hkn hkq => by rw [List.getElem?_set_ne (Ne.symm hkq)]) (by rw [List.length_set]; exact Nat.le_refl _)
    obtain ⟨a, b, e, h⟩ := o3.pot
    exact ⟨a, b, by rw [List.getElem?_set_ne (by omega)]; exact e, h⟩
  obtain ⟨ps, a14, a15, S5, o5, f5, p5, good, pl, all, run5⟩ := pairs_run (n := n) (us := us) (row := row) (room := room) (qf := S0.length) (j := T) (ms := ms) pw (by omega) (a9 := a9) (a10 := a10) (qp := S2.length) o4 (by omega) hn p4 f4 (by omega)
  have pos : 0 < ps.length := by
    obtain ⟨i, k, x, y, h1, h2, h3, h4⟩ := pigeon (ms := ms) (by omega) fun m hm => by
      have := mks m hm
      exact ⟨this.r0, by have := this.r1; omega⟩
    exact List.length_pos_iff_exists_mem.mpr ⟨_, all i k x y h1 h2 h3 h4⟩
  obtain ⟨v, S6, pk, hv, p6, st6⟩ := pickR (n := n) (q := S2.length) (ws := ps.map dP) (by rw [List.length_map]; exact pos) (by rw [List.length_map]; omega) (fun x hx => by
    obtain ⟨p, _, rfl⟩ := List.mem_map.mp hx; rfl) (by omega) o5.pot p5
  obtain ⟨⟨x, y⟩, hp, rfl⟩ := List.mem_map.mp hv
  obtain ⟨g1, g2, g3, g4⟩ := good _ hp
  have o6 := o5.draw p6 st6
  have f6 : S6[S0.length]? = some (MO.lst (w.map .int)) := by rw [st6.same _ (List.getElem?_eq_some_iff.mp f5).1 (by omega)]; exact f5
  have tm := told_math (mks x g1) (mks y g2) g3 g4 I.inw I.lt (by rw [I.len]; omega) hne
  have fin : b_law_walk (startE N_law_walk.length [.ref n, .lst (us.map dW), dS row]) S0 = some (.rt (.tup [.lst ((w.take x.2).map .int), .lst (((w.drop x.2).take (y.2 - x.2)).map .int)]), S6) := by
    rw [hs]
    unfold b_law_walk
    have e1 : tupD (consA (M.ret (.int 0)) (consA (newD (M.ret [])) (consA (newD (M.ret [])) (consA (M.ret (.int 0)) (M.ret []))))) S0 = some (.tup [.int 0, .ref S0.length, .ref (S0.length + 1), .int 0], S0 ++ [.lst []] ++ [.lst []]) := by
      refine tup_of ?_ (by simp)
      rw [consA_def, M.bind_ret, consA_def, M.bind_assoc, M.bind_of (new_ret [] (by simp) S0), M.bind_assoc, consA_def, M.bind_assoc, M.bind_of (new_ret [] (by simp) _), List.length_append]
      rfl
    refine (seq_of (asg_of (e' := [some (.ref n), some (.lst (us.map dW)), some (dS row), some (.int 0), some (.ref S0.length), some (.ref (S0.length + 1)), some (.int 0), none, none, none, none, none, none, none, none, none, none, none, none]) e1 rfl)).trans ?_
    refine (seq_of (S' := S0 ++ [.lst []] ++ [.lst []]) (e := eW n us row 0 S0.length (S0.length + 1) 0 none none none none none none none none none none) rfl).trans ?_
    have er : rng1 (consA (M.bind (M.bind (consA (M.ret (tI row.1)) (M.ret [])) lenA) fun x => M.bind (M.bind (M.ret (.int 5)) fun x => M.bind (M.bind (consA (M.ret (tI row.2)) (M.ret [])) lenA) fun y => mulD x y) fun y => addD x y) (M.ret [])) = rng1 (M.ret [.int (T : Int)]) := by
      rw [consA_ret, M.bind_ret, len_tI, M.bind_ret, M.bind_ret, consA_ret, M.bind_ret, len_tI, M.bind_ret, mulD_small _ _ (by decide) (by omega), M.bind_ret, addD_int, consA_ret, hT]
      rw [show ((row.1.length : Int) + 5 * (row.2.length : Int)) = ((row.1.length + 5 * row.2.length : Nat) : Int) by omega]
    refine (seq_of ((congrFun (congrArg (fun m => forD m (setE 9) bWk (eW n us row 0 S0.length (S0.length + 1) 0 none none none none none none none none none none)) er) _).trans run1)).trans ?_
    have e2 : tupD (consA (M.ret (.int room)) (consA (M.ret (.int (T : Int))) (M.ret []))) = M.ret (dM (room, T)) := by rw [consA_ret, consA_ret, tupD_2]; rfl
    have e3 : consA (tupD (consA (M.ret (.int room)) (consA (M.ret (.int (T : Int))) (M.ret [])))) (M.ret []) = M.ret [dM (room, T)] := by rw [e2, consA_ret]
    refine (seq_of (expr_of (w := .non) (S' := S2) ((congrFun (congrArg (fun m => bmD appD (M.ret (.ref (S0.length + 1))) m) e3) S1).trans a1))).trans ?_
    refine (seq_of (set_of (w := .ref S2.length) (S' := S2 ++ [.lst []]) n3)).trans ?_
    have e4 : fzE 5 ((eW n us row room S0.length (S0.length + 1) T a9 a10 none none none none none none none none).set 13 (some (.ref S2.length))) (S2 ++ [.lst []]) = some (eP n us row room S0.length ms T a9 a10 S2.length none none, S4) := by
      show (match fzS (S2 ++ [MO.lst []]) (S0.length + 1) with | some w => some ((((eW n us row room S0.length (S0.length + 1) T a9 a10 none none none none none none none none).set 13 (some (.ref S2.length))).set 5 (some w)), (S2 ++ [MO.lst []]).set (S0.length + 1) .gone) | none => none) = _
      have : fzS (S2 ++ [.lst []]) (S0.length + 1) = some (.lst (ms.map dM)) := by
        show (match (S2 ++ [MO.lst []])[S0.length + 1]? with | some o => o.fz | none => none) = _
        rw [m3]; rfl
      rw [this, hS4]
      rfl
    refine (seq_of ((M.bind_of (f := fun env => forD (enmD (consA (rdE 5 env) (M.ret []))) (tupG 2 (gsCons (setE 14) (gsCons (setE 15) (gsNil)))) bPr env) e4).trans run5)).trans ?_
    refine (seq_of (asg_of (w := dP (x, y)) (S1 := S6) (S2 := S6) (e' := (((eP n us row room S0.length ms T a9 a10 S2.length a14 a15).set 17 (some (dM x))).set 18 (some (dM y)))) ((call_of (n := 2) (S' := S5) (ws := [.ref n, .ref S2.length]) rfl rfl).trans pk) rfl)).trans ?_
    unfold eP
    simp only [List.set_cons_succ, List.set_cons_zero, rdE_zero, rdE_succ, M.bind_ret, dM_1, asI_int]
    have sl : ∀ lo hi : Option Int, slD (.ref S0.length) lo hi S6 = some (.lst (cutW (w.map .int) lo hi), S6) := fun lo hi => by
      show (match lsV S6 (.ref S0.length) with | some ws => some (Dv.lst (cutW ws lo hi), S6) | none => none) = _
      rw [show lsV S6 (.ref S0.length) = some (w.map .int) from stL_of f6]
    refine ret_of (tup_of ?_ (by simp))
    rw [consA_def, M.bind_of (sl _ _), M.bind_of (cons_of (sl _ _)), cut_map, cut_map, cut_to, cut_part]
    rfl
  have pu : (Dv.tup [.lst ((w.take x.2).map .int), .lst (((w.drop x.2).take (y.2 - x.2)).map .int)]).pu = true := by
    show (Dv.pus ((w.take x.2).map .int) && (Dv.pus (((w.drop x.2).take (y.2 - x.2)).map .int) && true)) = true
    rw [pus_ints, pus_ints]; rfl
  obtain ⟨S7, q1, q2, q3⟩ := old_end fin pu o6 h0
  exact ⟨_, S7, q1, tm, q2, q3⟩
end K31
namespace K31
open PySem PySem.Spec PyProof.Rows L2 DD
variable [IW : HasW]
structure AtS (w : Dv) : Prop where
  at_ : At w
  sm : Sm 0 64 w
theorem asi (i : Int) (h : -1000000 ≤ i) (h2 : i ≤ 1000000) : AtS (.int i) := ⟨.int i, sm_int (by omega) (by omega)⟩
theorem asb (b : Bool) : AtS (.bl b) := ⟨.bl b, (sm_bl b).mono (Nat.le_refl _) (by decide)⟩
theorem asn : AtS .non := ⟨.non, sm_non.mono (Nat.le_refl _) (by decide)⟩
theorem ass {x : Str} (h : PyData.strOk x = true) (hl : x.cps.size ≤ 64) : AtS (.str x) := ⟨.str x, sm_str h hl⟩
theorem al0 {P : Dv → Prop} : ∀ y ∈ ([] : List Dv), P y := fun _ z => nomatch z
theorem al1 {P : Dv → Prop} {x : Dv} {xs : List Dv} (h : P x) (k : ∀ y ∈ xs, P y) : ∀ y ∈ x :: xs, P y := List.forall_mem_cons.mpr ⟨h, k⟩
structure VV (v : Dv) : Prop where
  ok : VOk v
  pu : ∀ k, v.lt k = true
  rp : ∃ t, reprA [v] = M.ret (.str t)
def AL (k : Nat) (ws : List Dv) : Prop := (∀ w ∈ ws, AtS w) ∧ ws.length ≤ k
theorem AL.app {a b : Nat} {u v : List Dv} (h : AL a u) (k : AL b v) : AL (a + b) (u ++ v) := ⟨fun w hw => by
  rcases List.mem_append.mp hw with hw | hw
  · exact h.1 w hw
  · exact k.1 w hw, by rw [List.length_append]; exact Nat.add_le_add h.2 k.2⟩
theorem AL.cut {a : Nat} {u : List Dv} (h : AL a u) (lo hi : Option Int) : AL a (cutW u lo hi) := by
  have s : (cutW u lo hi).Sublist u := by
    unfold cutW
    exact (List.take_sublist _ _).trans (List.drop_sublist _ _)
  exact ⟨fun w hw => h.1 w (s.subset hw), Nat.le_trans s.length_le h.2⟩
theorem AL.mono {a b : Nat} {u : List Dv} (h : AL a u) (k : a ≤ b) : AL b u := ⟨h.1, Nat.le_trans h.2 k⟩
theorem AL.one {w : Dv} (h : AtS w) : AL 1 [w] := ⟨al1 h al0, Nat.le_refl _⟩
theorem AL.nil : AL 0 [] := ⟨al0, Nat.le_refl _⟩
theorem AL.ints {us : List Wy} {w : List Int} {k : Nat} (h : In us w) (hu : us.length ≤ 64) (hl : w.length ≤ k) : AL k (w.map .int) := ⟨fun v hv => by
  obtain ⟨i, hi, rfl⟩ := List.mem_map.mp hv
  have := h i hi
  exact asi i (by omega) (by omega), by rw [List.length_map]; exact hl⟩
theorem sml {ws : List Dv} (h : AL 200 ws) : Sm 1 13000 (.lst ws) := (sm_lst (d := 0) (n := 64) fun w hw => (h.1 w hw).sm).mono (Nat.le_refl _) (by have := h.2; omega)
theorem smt {ws : List Dv} (h : AL 200 ws) : Sm 1 13000 (.tup ws) := (sm_tup (d := 0) (n := 64) fun w hw => (h.1 w hw).sm).mono (Nat.le_refl _) (by have := h.2; omega)
theorem pll {ws : List Dv} (h : AL 200 ws) : PL (.lst ws) := ⟨ws, .inl rfl, fun w hw => (h.1 w hw).at_, by have := h.2; omega⟩
theorem plt {ws : List Dv} (h : AL 200 ws) : PL (.tup ws) := ⟨ws, .inr rfl, fun w hw => (h.1 w hw).at_, by have := h.2; omega⟩
theorem vv_two {x y : Dv} (hx : PL x) (hy : PL y) (sx : Sm 1 13000 x) (sy : Sm 1 13000 y) : VV (.tup [x, y]) := by
  have s : Sm 2 30000 (.tup [x, y]) := (sm_tup (d := 1) (n := 13000) (al1 (P := fun w => Sm 1 13000 w) sx (al1 sy al0))).mono (Nat.le_refl _) (by simp)
  exact ⟨.pr x y hx hy, fun k => pu_lt _ s.pu, _, reprA_sm s (by decide) (by decide)⟩
theorem vv_ll {u v : List Dv} {a b : Nat} (h : AL a u) (k : AL b v) (ha : a ≤ 200) (hb : b ≤ 200) : VV (.tup [.lst u, .lst v]) := vv_two (pll (h.mono ha)) (pll (k.mono hb)) (sml (h.mono ha)) (sml (k.mono hb))
theorem vv_tt {u v : List Dv} {a b : Nat} (h : AL a u) (k : AL b v) (ha : a ≤ 200) (hb : b ≤ 200) : VV (.tup [.tup u, .tup v]) := vv_two (plt (h.mono ha)) (plt (k.mono hb)) (smt (h.mono ha)) (smt (k.mono hb))
theorem vv_l2 {u v : List Dv} {a b : Nat} (h : AL a u) (k : AL b v) (ha : a ≤ 200) (hb : b ≤ 200) : VV (.lst [.lst u, .lst v]) := by
  have s : Sm 2 30000 (.lst [.lst u, .lst v]) := (sm_lst (d := 1) (n := 13000) (al1 (P := fun w => Sm 1 13000 w) (sml (h.mono ha)) (al1 (sml (k.mono hb)) al0))).mono (Nat.le_refl _) (by simp)
  exact ⟨.lst _, fun k => pu_lt _ s.pu, _, reprA_sm s (by decide) (by decide)⟩
theorem vv_at {w : Dv} (h : AtS w) : VV w := ⟨.at_ w h.at_, fun k => pu_lt _ h.sm.pu, _, reprA_sm h.sm (by decide) (by decide)⟩
theorem vv_t0 : VV (.tup []) := ⟨.nil, fun k => rfl, _, reprA_sm ((sm_tup (d := 0) (n := 0) (ws := []) al0).mono (Nat.le_refl _) (by simp : _ ≤ 10)) (by decide) (by decide)⟩
theorem vv_l0 : VV (.lst []) := ⟨.lst _, fun k => rfl, _, reprA_sm ((sm_lst (d := 0) (n := 0) (ws := []) al0).mono (Nat.le_refl _) (by simp : _ ≤ 10)) (by decide) (by decide)⟩
theorem vv_dct : VV (.dct [] []) := ⟨.dct, fun k => by simp [Dv.lt, Dv.lts], _, reprA_dct⟩
theorem tu_lst (ws : List Dv) : tupleD [.lst ws] = M.ret (.tup ws) := Eq.trans rfl rfl
theorem q_bent {n : Nat} {us : List Wy} {h l : List Int} (hu : us.length ≤ 64) (ih : In us h) (il : In us l) (l0 : l ≠ []) (lh : h.length ≤ 30) (ll : l.length ≤ 30) :
    Rn n (g_law_bent [.ref n, .tup [.lst (h.map .int), .lst (l.map .int)], .lst (us.map dW)]) VV := Rn.fnL (by
  have hs : startE N_law_bent.length [.ref n, .tup [.lst (h.map .int), .lst (l.map .int)], .lst (us.map dW)] = [some (.ref n), some (.tup [.lst (h.map .int), .lst (l.map .int)]), some (.lst (us.map dW)), none, none, none, none, none, none] := rfl
  rw [hs]
  unfold b_law_bent
  have Ah := AL.ints ih hu lh
  have Al := AL.ints il hu ll
  have lpos : 0 < (l.map Dv.int).length := by rw [List.length_map]; exact List.length_pos_iff.mpr l0
  revert Ah Al lpos
  generalize h.map Dv.int = H
  generalize l.map Dv.int = Lp
  intro Ah Al lpos
  have h1 := Ah.2
  have h2 := Al.2
  simp only [rdE_zero, rdE_succ, M.bind_ret, consA_ret, callD_ret, List.length_cons, List.length_nil, if_pos, addD_lst H Lp (by omega)]
  refine Rn.seq (P := fun e => ∃ kz : Int, (0 ≤ kz ∧ kz < 8) ∧ e = [some (.ref n), some (.tup [.lst H, .lst Lp]), some (.lst (us.map dW)), some (.int kz), some (.lst H), some (.lst Lp), none, none, none]) ?_ ?_
  · unfold asgS
    refine Rn.bind (P := fun v => ∃ kz : Int, (0 ≤ kz ∧ kz < 8) ∧ v = .tup [.int kz, .tup [.lst H, .lst Lp]]) (rn_tup (P := fun ws => ∃ kz : Int, (0 ≤ kz ∧ kz < 8) ∧ ws = [.int kz, .tup [.lst H, .lst Lp]]) (Rn.cons (Q := fun ws => ws = [.tup [.lst H, .lst Lp]]) (draw (k := 8) (by decide) (by decide)) (.ret rfl) ?_) ?_) ?_
    · rintro v ws ⟨d, rfl, hd⟩ rfl
      exact ⟨(d : Int), ⟨by omega, hd⟩, rfl⟩
    · rintro ws ⟨kz, q, rfl⟩
      exact ⟨by simp, kz, q, rfl⟩
    · rintro _ ⟨kz, q, rfl⟩
      exact Rn.eq (a := Fl.nx [some (.ref n), some (.tup [.lst H, .lst Lp]), some (.lst (us.map dW)), some (.int kz), some (.lst H), some (.lst Lp), none, none, none]) rfl ⟨_, rfl, kz, q, rfl⟩
  rintro _ ⟨kz, ⟨k0, k8⟩, rfl⟩
  have ad : addD (.lst H) (.lst Lp) = M.ret (.lst (H ++ Lp)) := addD_lst H Lp (by omega)
  have lb : lenA [.lst (H ++ Lp)] = M.ret (.int (H ++ Lp).length) := lenA_lst _
  have Ab := Ah.app Al
  have hpos : (0 : Int) < ((H ++ Lp).length : Int) := by rw [List.length_append]; omega
  simp only [rdE_zero, rdE_succ, M.bind_ret, consA_ret, callD_ret, List.length_cons, List.length_nil, if_pos, ad, lb]
  refine Rn.par (P := fun v w => v = .lst (H ++ Lp) ∧ ∃ a : Int, w = .int a) (Rn.cons (P := fun v => v = .lst (H ++ Lp)) (Q := fun ws => ∃ a : Int, ws = [.int a]) (.ret rfl) (Rn.cons (P := fun w => ∃ a : Int, w = .int a) (Q := fun ws => ws = []) (Rn.bind (draw (k := 30) (by decide) (by decide)) ?_) (.ret rfl) fun w ws ⟨a, e⟩ e2 => ⟨a, by rw [e, e2]⟩) fun v ws e ⟨a, e2⟩ => ⟨v, .int a, by rw [e2], e, a, rfl⟩) ?_
  · rintro _ ⟨d, rfl, hd⟩
    rw [modD_int _ _ hpos]
    exact .ret ⟨_, rfl⟩
  rintro _ _ ⟨rfl, a, rfl⟩
  simp only [List.set_cons_succ, List.set_cons_zero, rdE_zero, rdE_succ, M.bind_ret, consA_ret, callD_ret, List.length_cons, List.length_nil, if_pos, lenA_lst, subD_int, negD_int, List.length_map, lstD_7]
  refine Rn.set (P := AtS) ((pick (n := n) (ws := [.int 0, .int 1, .int ((us.length : Int) - 1), .int (us.length : Int), .bl true, .non, .int (-1)]) (by simp) (by simp) ?_).mono ?_) ?_
  · exact al1 rfl (al1 rfl (al1 rfl (al1 rfl (al1 rfl (al1 rfl (al1 rfl al0))))))
  · exact al1 (asi _ (by decide) (by decide)) (al1 (asi _ (by decide) (by decide)) (al1 (asi _ (by omega) (by omega)) (al1 (asi _ (by omega) (by omega)) (al1 (asb true) (al1 asn (al1 (asi _ (by decide) (by decide)) al0))))))
  intro odd hodd
  have fin : ∀ {v : Dv}, VV v → (∃ w, Fl.rt v = .rt w ∧ (∀ k, w.lt k = true) ∧ VV w) := fun h => ⟨_, rfl, h.pu, h⟩
  rcases (show kz = 0 ∨ kz = 1 ∨ kz = 2 ∨ kz = 3 ∨ kz = 4 ∨ kz = 5 ∨ kz = 6 ∨ kz = 7 by omega) with rfl | rfl | rfl | rfl | rfl | rfl | rfl | rfl
  · refine Rn.eq (a := Fl.rt (.tup [.lst (H ++ Lp), .lst Lp])) ?_ (fin (vv_ll Ab Al (by decide) (by decide)))
    simp only [List.set_cons_succ, List.set_cons_zero, rdE_zero, rdE_succ, M.bind_ret, eqD_int, asB_bl, decide_true, ifS_ret, if_pos, ad, consA_ret, tupD_2, retS_ret, seqD_rt]
  · refine Rn.eq (a := Fl.rt (.tup [.lst H, .lst (Lp ++ Lp)])) ?_ (fin (vv_ll Ah (Al.app Al) (by decide) (by decide)))
    simp only [List.set_cons_succ, List.set_cons_zero, rdE_zero, rdE_succ, M.bind_ret, eqD_int, asB_bl, decide_true, show decide ((1 : Int) = 0) = false from rfl, ifS_ret, if_pos, Bool.false_eq_true, if_false, nxD_def, seqD_nx, addD_lst Lp Lp (by omega), consA_ret, tupD_2, retS_ret, seqD_rt]
  · have A1 := Ab.cut none (some a)
    have A2 := A1.app (AL.one hodd)
    have A3 := A2.app (Ab.cut (some (a + 1)) none)
    have b1 := A1.2
    have b2 := (Ab.cut (some (a + 1)) none).2
    have ad1 : addD (.lst (cutW (H ++ Lp) none (some a))) (.lst [odd]) = M.ret (.lst (cutW (H ++ Lp) none (some a) ++ [odd])) := addD_lst _ _ (by simp; omega)
    have ad2 : addD (.lst (cutW (H ++ Lp) none (some a) ++ [odd])) (.lst (cutW (H ++ Lp) (some (a + 1)) none)) = M.ret (.lst (cutW (H ++ Lp) none (some a) ++ [odd] ++ cutW (H ++ Lp) (some (a + 1)) none)) := addD_lst _ _ (by rw [List.length_append]; simp; omega)
    refine Rn.eq (a := Fl.rt (.tup [.lst (cutW (cutW (H ++ Lp) none (some a) ++ [odd] ++ cutW (H ++ Lp) (some (a + 1)) none) none (some (H.length : Int))), .lst (cutW (cutW (H ++ Lp) none (some a) ++ [odd] ++ cutW (H ++ Lp) (some (a + 1)) none) (some (H.length : Int)) none)])) ?_ (fin (vv_ll (A3.cut _ _) (A3.cut _ _) (by decide) (by decide)))
    simp only [List.set_cons_succ, List.set_cons_zero, rdE_zero, rdE_succ, M.bind_ret, eqD_int, asB_bl, decide_true, show decide ((2 : Int) = 0) = false from rfl, show decide ((2 : Int) = 1) = false from rfl, ifS_ret, if_pos, Bool.false_eq_true, if_false, nxD_def, seqD_nx, asI_int, slD_lst, consA_ret, lstD_1, ad1, addD_int, ad2, setS_ret, lenA_lst, tupD_2, retS_ret, seqD_rt]
  · refine Rn.eq (a := Fl.rt (.tup [.lst H, .lst (cutW Lp none (some (-1)))])) ?_ (fin (vv_ll Ah (Al.cut _ _) (by decide) (by decide)))
    simp only [List.set_cons_succ, List.set_cons_zero, rdE_zero, rdE_succ, M.bind_ret, eqD_int, asB_bl, decide_true, show decide ((3 : Int) = 0) = false from rfl, show decide ((3 : Int) = 1) = false from rfl, show decide ((3 : Int) = 2) = false from rfl, ifS_ret, if_pos, Bool.false_eq_true, if_false, nxD_def, seqD_nx, negD_int, asI_int, slD_lst, consA_ret, tupD_2, retS_ret, seqD_rt]
  · refine Rn.eq (a := Fl.rt (.tup [.tup H, .tup Lp])) ?_ (fin (vv_tt Ah Al (by decide) (by decide)))
    simp only [List.set_cons_succ, List.set_cons_zero, rdE_zero, rdE_succ, M.bind_ret, eqD_int, asB_bl, decide_true, show decide ((4 : Int) = 0) = false from rfl, show decide ((4 : Int) = 1) = false from rfl, show decide ((4 : Int) = 2) = false from rfl, show decide ((4 : Int) = 3) = false from rfl, ifS_ret, if_pos, Bool.false_eq_true, if_false, nxD_def, seqD_nx, consA_ret, tu_lst, tupD_2, retS_ret, seqD_rt]
  · have A1 := Al.cut none (some 1)
    have A2 := Al.cut (some 1) none
    have b1 := A1.2
    have b2 := A2.2
    refine Rn.eq (a := Fl.rt (.tup [.lst (H ++ cutW Lp none (some 1)), .lst (cutW Lp (some 1) none ++ cutW Lp none (some 1))])) ?_ (fin (vv_ll (Ah.app A1) (A2.app A1) (by decide) (by decide)))
    simp only [List.set_cons_succ, List.set_cons_zero, rdE_zero, rdE_succ, M.bind_ret, eqD_int, asB_bl, decide_true, show decide ((5 : Int) = 0) = false from rfl, show decide ((5 : Int) = 1) = false from rfl, show decide ((5 : Int) = 2) = false from rfl, show decide ((5 : Int) = 3) = false from rfl, show decide ((5 : Int) = 4) = false from rfl, ifS_ret, if_pos, Bool.false_eq_true, if_false, nxD_def, seqD_nx, asI_int, slD_lst, addD_lst H (cutW Lp none (some 1)) (by omega), addD_lst (cutW Lp (some 1) none) (cutW Lp none (some 1)) (by omega), consA_ret, tupD_2, retS_ret, seqD_rt]
  · refine Rn.eq (a := Fl.rt (.lst [.lst H, .lst Lp])) ?_ (fin (vv_l2 Ah Al (by decide) (by decide)))
    simp only [List.set_cons_succ, List.set_cons_zero, rdE_zero, rdE_succ, M.bind_ret, eqD_int, asB_bl, decide_true, show decide ((6 : Int) = 0) = false from rfl, show decide ((6 : Int) = 1) = false from rfl, show decide ((6 : Int) = 2) = false from rfl, show decide ((6 : Int) = 3) = false from rfl, show decide ((6 : Int) = 4) = false from rfl, show decide ((6 : Int) = 5) = false from rfl, ifS_ret, ifE_ret, if_pos, Bool.false_eq_true, if_false, nxD_def, seqD_nx, consA_ret, lstD_2, retS_ret]
  · refine Rn.eq (a := Fl.rt (.tup [.lst (cutW H (some 1) none), .lst Lp])) ?_ (fin (vv_ll (Ah.cut _ _) Al (by decide) (by decide)))
    simp only [List.set_cons_succ, List.set_cons_zero, rdE_zero, rdE_succ, M.bind_ret, eqD_int, asB_bl, decide_true, show decide ((7 : Int) = 0) = false from rfl, show decide ((7 : Int) = 1) = false from rfl, show decide ((7 : Int) = 2) = false from rfl, show decide ((7 : Int) = 3) = false from rfl, show decide ((7 : Int) = 4) = false from rfl, show decide ((7 : Int) = 5) = false from rfl, show decide ((7 : Int) = 6) = false from rfl, ifS_ret, ifE_ret, if_pos, Bool.false_eq_true, if_false, nxD_def, seqD_nx, asI_int, slD_lst, consA_ret, tupD_2, retS_ret])
end K31
namespace DD
open PySem PySem.Spec PyProof.Rows L2
variable [IW : HasW]
open Classical in
/-- a loop over a live list that changes nothing -/
theorem forM_liveP {S : Sto} {q : Nat} {all : List Dv} (hS : S[q]? = some (.lst all)) {g : Dv → En → M En} {b : En → M Fl} (I : En → Prop) :
    ∀ (xs : List Dv) (e : En), I e → (∀ x ∈ xs, ∀ e, I e → ∃ e', I e' ∧ M.bind (g x e) b = M.ret (.nx e')) → ∃ e', I e' ∧ forM g b ⟨all, some q⟩ xs e S = some (.nx e', S)
  | [], e, hI, _ => ⟨e, hI, by
    show (if stL S q = some all then some (Fl.nx e, S) else none) = _
    rw [if_pos (stL_of hS)]⟩
  | x :: xs, e, hI, hb => by
    obtain ⟨e1, hI1, h1⟩ := hb x List.mem_cons_self e hI
    obtain ⟨e', hI', h'⟩ := forM_liveP hS I xs e1 hI1 fun y hy => hb y (List.mem_cons_of_mem _ hy)
    refine ⟨e', hI', ?_⟩
    show (if stL S q = some all then M.bind (g x e) (fun e1 => M.bind (b e1) _) S else none) = _
    rw [if_pos (stL_of hS), ← M.bind_assoc, h1, M.bind_ret]
    exact h'
theorem forD_liveP {S : Sto} {q : Nat} {all : List Dv} (hS : S[q]? = some (.lst all)) {g : Dv → En → M En} {b : En → M Fl} {env : En} (I : En → Prop) (hI : I env)
    (hb : ∀ x ∈ all, ∀ e, I e → ∃ e', I e' ∧ M.bind (g x e) b = M.ret (.nx e')) : ∃ e', I e' ∧ forD (srD (.ref q)) g b env S = some (.nx e', S) := by
  obtain ⟨e', h1, h2⟩ := forM_liveP hS I all env hI hb
  refine ⟨e', h1, ?_⟩
  unfold forD
  have e : srD (.ref q) S = some (⟨all, some q⟩, S) := by
    show (match stL S q with | some ws => some ((⟨ws, some q⟩ : Sr), S) | none => none) = _
    rw [stL_of hS]
  rw [M.bind_of e]
  exact h2
theorem forD_nx {xs : List Dv} {m : M Sr} {g : Dv → En → M En} {b : En → M Fl} {env : En} (hm : m = M.ret ⟨xs, none⟩) (I : En → Prop) (hI : I env)
    (hb : ∀ x ∈ xs, ∀ e, I e → ∃ e', I e' ∧ M.bind (g x e) b = M.ret (.nx e')) : ∃ e', I e' ∧ forD m g b env = M.ret (.nx e') := by
  obtain ⟨e', h1, h2⟩ := for_find (m := m) (g := g) (b := b) (env := env) xs id (fun _ => none) I (by rw [hm, List.map_id]) hI fun x hx e he => by
    obtain ⟨e', a, c⟩ := hb x hx e he
    exact ⟨e', a, c⟩
  refine ⟨e', h1, ?_⟩
  rw [h2]
  have : ∀ ys : List Dv, ys.findSome? (fun _ => (none : Option Dv)) = none := fun ys => by
    induction ys with
    | nil => rfl
    | cons a b ih => exact ih
  rw [this]; rfl
end DD
namespace K31
open PySem PySem.Spec PyProof.Rows L2 DD
variable [IW : HasW]
/-! ## slips -/
def sl1 (us : List Wy) (w : List Int) : List Int := w.filter fun i => decide ((wy us i).2.2.2 = 1)
theorem slp_cons (us : List Wy) (i : Int) (w : List Int) : slp us (i :: w) = (wy us i).2.2.2 + slp us w := by unfold slp; rw [List.map_cons, List.sum_cons]
theorem sl1_len {R L : Nat} {us : List Wy} (W : Ws R L us) : ∀ {w : List Int}, In us w → slp us w = ((sl1 us w).length : Int)
  | [], _ => rfl
  | i :: w, h => by
    have hi := h i List.mem_cons_self
    have ih := sl1_len W (w := w) fun j hj => h j (List.mem_cons_of_mem _ hj)
    have yin : wy us i ∈ us := by
      unfold wy
      rw [List.getD_eq_getElem?_getD, List.getElem?_eq_getElem (show i.toNat < us.length by omega)]
      exact List.getElem_mem _
    have r := (W.rng _ yin).2.2.2
    rw [slp_cons, ih]
    unfold sl1
    by_cases c : (wy us i).2.2.2 = 1
    · rw [List.filter_cons_of_pos (by rw [decide_eq_true c]), c, List.length_cons]; omega
    · rw [List.filter_cons_of_neg (by rw [decide_eq_false c]; exact Bool.false_ne_true)]; omega
theorem sl1_zero {R L : Nat} {us : List Wy} (W : Ws R L us) {w : List Int} (h : In us w) : decide (slp us w = 0) = decide (sl1 us w = []) := by
  rw [sl1_len W h]
  refine decide_eq_decide.mpr ⟨fun e => List.length_eq_zero_iff.mp (by omega), fun e => by rw [e]; rfl⟩
theorem lc_slips {us : List Wy} {m : M Sr} {w : List Int} (hm : m = M.ret ⟨w.map .int, none⟩) (hl : w.length ≤ 1000000) (hw : In us w) {e0 : En} (h3 : rdE 3 (wpE e0 [17]) = M.ret (.lst (us.map dW))) (hlen : (wpE e0 [17]).length = 18) :
    lcD m [17] (setE 17) (fun env => M.bind (M.bind (M.bind (M.bind (rdE 3 env) fun x => M.bind (rdE 17 env) fun y => ixA x y) fun x => M.bind (M.ret (.int 3)) fun y => ixA x y) fun x => M.bind (M.ret (.int 1)) fun y => eqD x y) asB) (fun env => rdE 17 env) e0 = M.ret (.lst ((sl1 us w).map .int)) := by
  refine lcD_ret w .int (fun i => decide ((wy us i).2.2.2 = 1)) .int hm hl fun i hi => ⟨(wpE e0 [17]).set 17 (some (.int i)), rfl, ?_, fun _ => ?_⟩
  · have e3 : rdE 3 ((wpE e0 [17]).set 17 (some (.int i))) = rdE 3 (wpE e0 [17]) := by
      unfold rdE
      rw [List.getElem?_set_ne (by decide)]
    have e17 : rdE 17 ((wpE e0 [17]).set 17 (some (.int i))) = M.ret (.int i) := by
      unfold rdE
      rw [List.getElem?_set_self (by omega)]
      rfl
    simp only [e3, h3, e17, M.bind_ret, ix_wyL (hw i hi), dW_3, eqD_int, asB_bl]
  · unfold rdE
    rw [List.getElem?_set_self (by omega)]
    rfl
def eT (n R L : Nat) (us : List Wy) (row other : Sd) (tv : Dv) (q : Nat) (a9 v a11 a12 a13 a14 a15 : Option Dv) : En := [some (.ref n), some (.int (L : Int)), some (.int (R : Int)), some (.lst (us.map dW)), some (dR R L us), some (dS row), some tv, some (dS other), some (.ref q), a9, v, a11, a12, a13, a14, a15, none, none]
structure Row (L : Nat) (row : Sd) : Prop where
  w1 : Wd L row.1
  w2 : Wd L row.2
  l1 : row.1.length ≤ 40
  l2 : row.2.length ≤ 40
  ne : row.2 ≠ []
noncomputable def bI : En → M Fl := fun env => seqD (parS 14 15 (consA (callD 3 g_law_is_run (consA (rdE 3 env) (consA (rdE 11 env) (consA (rdE 10 env) (M.ret []))))) (consA (M.bind (consA (rdE 10 env) (M.ret [])) reprA) (M.ret []))) env) fun env => seqD (setS 12 (ifE (M.bind (rdE 14 env) asB) (lcD (M.bind (rdE 10 env) srD) [16] (setE 16) (fun _ => M.ret true) (fun env => lcD (M.bind (rdE 16 env) srD) [17] (setE 17) (fun env => M.bind (M.bind (M.bind (M.bind (rdE 3 env) fun x => M.bind (rdE 17 env) fun y => ixA x y) fun x => M.bind (M.ret (.int 3)) fun y => ixA x y) fun x => M.bind (M.ret (.int 1)) fun y => eqD x y) asB) (fun env => rdE 17 env) env) env) (lstD (M.ret []))) env) fun env => seqD (setS 13 (andV (rdE 14 env) (M.bind (M.bind (rdE 12 env) fun x => M.bind (M.ret (.int 1)) fun y => ixA x y) fun x => M.bind (lstD (M.ret [])) fun y => eqD x y)) env) fun env => seqD (ifS (M.bind (M.bind (M.bind (consA (lstD (consA (callK 0 3 [2, 1, 0] 3 g_is_run (M.ret []) (consA (rdE 10 env) (consA (rdE 11 env) (consA (rdE 4 env) (M.ret []))))) (consA (callD 3 g_is_clean_run (consA (rdE 4 env) (consA (rdE 11 env) (consA (rdE 10 env) (M.ret []))))) (M.ret [])))) (M.ret [])) reprA) fun x => M.bind (M.bind (consA (lstD (consA (rdE 14 env) (consA (rdE 13 env) (M.ret [])))) (M.ret [])) reprA) fun y => neD x y) asB) (retS (M.ret (.bl false))) (nxD env)) fun env => ifS (orT (andT (M.bind (rdE 14 env) asB) (M.bind (M.bind (M.bind (consA (callD 2 g_slips_of (consA (rdE 4 env) (consA (rdE 10 env) (M.ret [])))) (M.ret [])) reprA) fun x => M.bind (M.bind (consA (tupD (consA (M.bind (consA (M.bind (rdE 12 env) fun x => M.bind (M.ret (.int 0)) fun y => ixA x y) (M.ret [])) lenA) (consA (M.bind (consA (M.bind (rdE 12 env) fun x => M.bind (M.ret (.int 1)) fun y => ixA x y) (M.ret [])) lenA) (M.ret [])))) (M.ret [])) reprA) fun y => neD x y) asB)) (M.bind (M.bind (M.bind (consA (rdE 10 env) (M.ret [])) reprA) fun x => M.bind (rdE 15 env) fun y => neD x y) asB)) (retS (M.ret (.bl false))) (nxD env)
theorem bb_repr (a b : Bool) : ∃ t, reprA [.lst [.bl a, .bl b]] = M.ret (.str t) := ⟨_, reprA_sm ((sm_lst (d := 0) (n := 0) (ws := [.bl a, .bl b]) (al1 (sm_bl a) (al1 (sm_bl b) al0))).mono (Nat.le_refl _) (by simp : _ ≤ 1000)) (by decide) (by decide)⟩
theorem ii_repr {a b : Int} (ha : 0 ≤ a ∧ a ≤ 100000) (hb : 0 ≤ b ∧ b ≤ 100000) : ∃ t, reprA [.tup [.int a, .int b]] = M.ret (.str t) := ⟨_, reprA_sm ((sm_tup (d := 0) (n := 64) (ws := [.int a, .int b]) (al1 (P := fun w => Sm 0 64 w) (sm_int (by omega) (by omega)) (al1 (sm_int (by omega) (by omega)) al0))).mono (Nat.le_refl _) (by simp : _ ≤ 1000)) (by decide) (by decide)⟩
theorem bd_bound {R L : Nat} {us : List Wy} (W : Ws R L us) {w : List Int} (h : In us w) (hl : w.length ≤ 1000) : 0 ≤ slp us w ∧ slp us w ≤ 100000 := by
  rw [sl1_len W h]
  have := List.length_filter_le (fun i => decide ((wy us i).2.2.2 = 1)) w
  unfold sl1
  omega
theorem i_run {n R L : Nat} {us : List Wy} {row other : Sd} {tv : Dv} {q : Nat} (W : Ws R L us) {hr : Sd} (H : Row L hr) {v : Dv} (hv : VV v) (a9 a12 a13 a14 a15 : Option Dv) :
    ∃ b12 b13 b14 b15, bI (eT n R L us row other tv q a9 (some v) (some (dS hr)) a12 a13 a14 a15) = M.ret (.nx (eT n R L us row other tv q a9 (some v) (some (dS hr)) b12 b13 b14 b15)) := by
  obtain ⟨t, ht⟩ := hv.rp
  have qr := q_law_run (us := us) H.ne hv.ok
  have q1 := q_is_run (R := R) (us := us) H.w1 H.w2 H.l1 H.l2 H.ne hv.ok
  have q2 := q_is_clean (R := R) (us := us) H.w1 H.w2 H.l1 H.l2 H.ne hv.ok
  have pk : DD.pick [2, 1, 0] ([] ++ [v, dS hr, dR R L us]) = [dR R L us, dS hr, v] := rfl
  cases hres : res us hr v with
  | false =>
    rw [hres] at qr q1 q2
    rw [Bool.false_and] at q2
    obtain ⟨u, hu⟩ := bb_repr false false
    refine ⟨some (.lst []), some (.bl false), some (.bl false), some (.str t), ?_⟩
    unfold bI eT
    simp only [rdE_zero, rdE_succ, M.bind_ret, consA_ret, callD_ret, List.length_cons, List.length_nil, if_pos, qr, ht, parS_ret, seqD_nx, List.set_cons_succ, List.set_cons_zero, asB_bl, ifE_ret, Bool.false_eq_true, if_false, lstD_nil, setS_ret, andV_ret, callK_ret, pk, and_self, q1, q2, lstD_2, hu, neD_str, decide_true, Bool.not_true, ifS_ret, nxD_def, andT_ret, orT_ret]
  | true =>
    cases e : told us v with
    | none => rw [res_none e] at hres; cases hres
    | some p =>
      obtain ⟨h, l⟩ := p
      obtain ⟨x, y, rfl⟩ := told_pr e
      obtain ⟨hx, hy⟩ := pr_of hv.ok
      have tl := told_some e
      have hcl : closed us h l = true := by
        rw [res_some e] at hres
        unfold resB at hres
        simp only [Bool.and_eq_true] at hres
        exact hres.2.2
      have qs := q_slips_of (R := R) (L := L) hv.ok e hcl
      have es : slpL us (.tup [x, y]) = slp us l := by unfold slpL; rw [e]
      rw [hres] at qr q1 q2
      rw [Bool.true_and, es, sl1_zero W tl.il] at q2
      obtain ⟨u, hu⟩ := bb_repr true (decide (sl1 us l = []))
      obtain ⟨u2, hu2⟩ := ii_repr (bd_bound W tl.ih (by have := tl.h1; omega)) (bd_bound W tl.il (by have := tl.l1; omega))
      have lc : lcD (M.bind (M.ret (.tup [x, y])) srD) [16] (setE 16) (fun _ => M.ret true) (fun env => lcD (M.bind (rdE 16 env) srD) [17] (setE 17) (fun env => M.bind (M.bind (M.bind (M.bind (rdE 3 env) fun x => M.bind (rdE 17 env) fun y => ixA x y) fun x => M.bind (M.ret (.int 3)) fun y => ixA x y) fun x => M.bind (M.ret (.int 1)) fun y => eqD x y) asB) (fun env => rdE 17 env) env) (eT n R L us row other tv q a9 (some (.tup [x, y])) (some (dS hr)) a12 a13 (some (.bl true)) (some (.str t))) = M.ret (.lst [.lst ((sl1 us h).map .int), .lst ((sl1 us l).map .int)]) := by
        have := lcD_map (m := M.bind (M.ret (.tup [x, y])) srD) (vs := [16]) (g := setE 16) (e := fun env => lcD (M.bind (rdE 16 env) srD) [17] (setE 17) (fun env => M.bind (M.bind (M.bind (M.bind (rdE 3 env) fun x => M.bind (rdE 17 env) fun y => ixA x y) fun x => M.bind (M.ret (.int 3)) fun y => ixA x y) fun x => M.bind (M.ret (.int 1)) fun y => eqD x y) asB) (fun env => rdE 17 env) env) (env := eT n R L us row other tv q a9 (some (.tup [x, y])) (some (dS hr)) a12 a13 (some (.bl true)) (some (.str t)))
          [(x, h), (y, l)] (fun p => p.1) (fun p => .lst ((sl1 us p.2).map .int)) rfl (by simp) fun p hp => ⟨(eT n R L us row other tv q a9 (some (.tup [x, y])) (some (dS hr)) a12 a13 (some (.bl true)) (some (.str t))).set 16 (some p.1), rfl, by
            have hp2 : parts p.1 = p.2.map .int ∧ In us p.2 ∧ PL p.1 ∧ p.2.length ≤ 1000 := by
              rcases List.mem_cons.mp hp with rfl | hp
              · exact ⟨tl.px, tl.ih, hx, tl.h1⟩
              · rw [List.mem_singleton.mp hp]
                exact ⟨tl.py, tl.il, hy, by have := tl.l1; show l.length ≤ 1000; omega⟩
            refine lc_slips (us := us) ?_ (by have := hp2.2.2.2; omega) hp2.2.1 rfl rfl
            show M.bind (M.ret p.1) srD = _
            rw [M.bind_ret, sr_PL hp2.2.2.1, List.map_id, hp2.1]⟩
        exact this
      have i0 : ixA (.lst [.lst ((sl1 us h).map .int), .lst ((sl1 us l).map .int)]) (.int 0) = M.ret (.lst ((sl1 us h).map .int)) := by rw [ixA_lst]; rfl
      have i1 : ixA (.lst [.lst ((sl1 us h).map .int), .lst ((sl1 us l).map .int)]) (.int 1) = M.ret (.lst ((sl1 us l).map .int)) := by rw [ixA_lst]; rfl
      have n0 : lenA [.lst ((sl1 us h).map .int)] = M.ret (.int (slp us h)) := by rw [lenA_lst, List.length_map, sl1_len W tl.ih]
      have n1 : lenA [.lst ((sl1 us l).map .int)] = M.ret (.int (slp us l)) := by rw [lenA_lst, List.length_map, sl1_len W tl.il]
      refine ⟨some (.lst [.lst ((sl1 us h).map .int), .lst ((sl1 us l).map .int)]), some (.bl (decide (sl1 us l = []))), some (.bl true), some (.str t), ?_⟩
      unfold bI
      refine (seqN (e := eT n R L us row other tv q a9 (some (.tup [x, y])) (some (dS hr)) a12 a13 (some (.bl true)) (some (.str t))) ?_).trans ?_
      · unfold eT
        simp only [rdE_zero, rdE_succ, M.bind_ret, consA_ret, callD_ret, List.length_cons, List.length_nil, if_pos, qr, ht, parS_ret, List.set_cons_succ, List.set_cons_zero]
      refine (seqN (e := eT n R L us row other tv q a9 (some (.tup [x, y])) (some (dS hr)) (some (.lst [.lst ((sl1 us h).map .int), .lst ((sl1 us l).map .int)])) a13 (some (.bl true)) (some (.str t))) ?_).trans ?_
      · have e14 : rdE 14 (eT n R L us row other tv q a9 (some (.tup [x, y])) (some (dS hr)) a12 a13 (some (.bl true)) (some (.str t))) = M.ret (.bl true) := rfl
        have e10 : rdE 10 (eT n R L us row other tv q a9 (some (.tup [x, y])) (some (dS hr)) a12 a13 (some (.bl true)) (some (.str t))) = M.ret (.tup [x, y]) := rfl
        rw [e14, e10, M.bind_ret, asB_bl, ifE_ret, if_pos rfl, lc]
        rfl
      unfold eT
      simp only [rdE_zero, rdE_succ, M.bind_ret, consA_ret, callD_ret, List.length_cons, List.length_nil, if_pos, andV_ret, i0, i1, lstD_nil, eq_nil, setS_ret, seqD_nx, List.set_cons_succ, List.set_cons_zero, asB_bl, Bool.false_eq_true, if_false, callK_ret, pk, and_self, q1, q2, lstD_2, hu, neD_str, decide_true, Bool.not_true, ifS_ret, nxD_def, andT_ret, orT_ret, qs, n0, n1, tupD_2, hu2, ht]
end K31
namespace K31
open PySem PySem.Spec PyProof.Rows L2 DD
variable [IW : HasW]
theorem rn_make {n R L : Nat} {us : List Wy} (h : Ws R L us) (he : sortL (us.map dW) = us.map dW) : Rn n (M.bind (mkD "Reader" 3 g_Reader___init__ (M.ret [.int (L : Int), .int (R : Int), .lst (us.map dW)])) fzD) fun v => v = dR R L us := by
  intro S hS
  refine ⟨dR R L us, S ++ [.gone], ?_, rfl, ?_, by simp, fun k hk _ => by rw [List.getElem?_append_left hk]⟩
  · have e : mkD "Reader" 3 g_Reader___init__ (M.ret [.int (L : Int), .int (R : Int), .lst (us.map dW)]) S = some (.ref S.length, S ++ [.ob "Reader" [fL, fR, fW, fB] [.int (L : Int), .int (R : Int), .tup (us.map dW), .dct (ksF us) (vsF us)]]) := by
      unfold mkD
      rw [M.bind_ret, if_pos (show [Dv.int (L : Int), .int (R : Int), .lst (us.map dW)].length = 3 from rfl), q_init h (List.Perm.refl _) he S]
    have z : fzD (.ref S.length) (S ++ [MO.ob "Reader" [fL, fR, fW, fB] [.int (L : Int), .int (R : Int), .tup (us.map dW), .dct (ksF us) (vsF us)]]) = some (dR R L us, S ++ [.gone]) := by
      have q := fz_refO (w := dR R L us) (last_at S (MO.ob "Reader" [fL, fR, fW, fB] [.int (L : Int), .int (R : Int), .tup (us.map dW), .dct (ksF us) (vsF us)])) rfl
      rw [push_set] at q
      exact q
    rw [M.bind_of e]
    exact z
  · obtain ⟨a, b, g, r⟩ := hS
    exact ⟨a, b, by rw [List.getElem?_append_left (List.getElem?_eq_some_iff.mp g).1]; exact g, r⟩
/-! ## one value, four rows -/
theorem Row.of {L : Nat} {row : Sd} (w1 : Wd L row.1) (w2 : Wd L row.2) (l1 : row.1.length ≤ 2) (l2 : row.2.length ≤ 4) (ne : row.2 ≠ []) : Row L row := ⟨w1, w2, by omega, by omega, ne⟩
theorem rep2 (w : List Int) : mulD (tI w) (.int 2) = M.ret (tI (w ++ w)) ∨ 1000 < w.length := by
  by_cases h : w.length ≤ 1000
  · refine .inl ?_
    unfold tI
    rw [mulD_tup _ _ (by decide) (by decide) (by rw [List.length_map]; exact h)]
    rw [show (2 : Int).toNat = 2 from rfl, List.map_append]
    show M.ret (Dv.tup (w.map .int ++ (w.map .int ++ []))) = _
    rw [List.append_nil]
  · exact .inr (by omega)
theorem add2 (u v : List Int) (h : u.length + v.length ≤ 1000000) : addD (tI u) (tI v) = M.ret (tI (u ++ v)) := by
  unfold tI
  rw [addD_tup _ _ (by rw [List.length_map, List.length_map]; exact h), List.map_append]
noncomputable def bO : En → M Fl := fun env => forD (M.bind (lstD (consA (rdE 5 env) (consA (rdE 7 env) (consA (tupD (consA (M.bind (rdE 5 env) fun x => M.bind (M.ret (.int 0)) fun y => ixA x y) (consA (M.bind (M.bind (rdE 5 env) fun x => M.bind (M.ret (.int 1)) fun y => ixA x y) fun x => M.bind (M.ret (.int 2)) fun y => mulD x y) (M.ret [])))) (consA (tupD (consA (M.bind (M.bind (rdE 5 env) fun x => M.bind (M.ret (.int 0)) fun y => ixA x y) fun x => M.bind (M.bind (rdE 5 env) fun x => M.bind (M.ret (.int 1)) fun y => ixA x y) fun y => addD x y) (consA (M.bind (rdE 5 env) fun x => M.bind (M.ret (.int 1)) fun y => ixA x y) (M.ret [])))) (M.ret [])))))) srD) (setE 11) bI env
theorem o_run {n R L : Nat} {us : List Wy} {row other : Sd} {tv : Dv} {q : Nat} (W : Ws R L us) (w1 : Wd L row.1) (w2 : Wd L row.2) (l1 : row.1.length ≤ 2) (l2 : row.2.length ≤ 4) (ne : row.2 ≠ []) (Ho : Row L other) {v : Dv} (hv : VV v) (a9 a11 a12 a13 a14 a15 : Option Dv) :
    ∃ b11 b12 b13 b14 b15, bO (eT n R L us row other tv q a9 (some v) a11 a12 a13 a14 a15) = M.ret (.nx (eT n R L us row other tv q a9 (some v) b11 b12 b13 b14 b15)) := by
  have r2 : mulD (tI row.2) (.int 2) = M.ret (tI (row.2 ++ row.2)) := by
    rcases rep2 row.2 with h | h
    · exact h
    · omega
  have ra : addD (tI row.1) (tI row.2) = M.ret (tI (row.1 ++ row.2)) := add2 _ _ (by omega)
  have hm : M.bind (lstD (consA (rdE 5 (eT n R L us row other tv q a9 (some v) a11 a12 a13 a14 a15)) (consA (rdE 7 (eT n R L us row other tv q a9 (some v) a11 a12 a13 a14 a15)) (consA (tupD (consA (M.bind (rdE 5 (eT n R L us row other tv q a9 (some v) a11 a12 a13 a14 a15)) fun x => M.bind (M.ret (.int 0)) fun y => ixA x y) (consA (M.bind (M.bind (rdE 5 (eT n R L us row other tv q a9 (some v) a11 a12 a13 a14 a15)) fun x => M.bind (M.ret (.int 1)) fun y => ixA x y) fun x => M.bind (M.ret (.int 2)) fun y => mulD x y) (M.ret [])))) (consA (tupD (consA (M.bind (M.bind (rdE 5 (eT n R L us row other tv q a9 (some v) a11 a12 a13 a14 a15)) fun x => M.bind (M.ret (.int 0)) fun y => ixA x y) fun x => M.bind (M.bind (rdE 5 (eT n R L us row other tv q a9 (some v) a11 a12 a13 a14 a15)) fun x => M.bind (M.ret (.int 1)) fun y => ixA x y) fun y => addD x y) (consA (M.bind (rdE 5 (eT n R L us row other tv q a9 (some v) a11 a12 a13 a14 a15)) fun x => M.bind (M.ret (.int 1)) fun y => ixA x y) (M.ret [])))) (M.ret [])))))) srD = M.ret ⟨[dS row, dS other, dS (row.1, row.2 ++ row.2), dS (row.1 ++ row.2, row.2)], none⟩ := by
    unfold eT
    simp only [rdE_zero, rdE_succ, M.bind_ret, dS_0, dS_1, r2, ra, consA_ret, tupD_2, lstD_4]
    rfl
  have Hr : Row L row := .of w1 w2 l1 l2 ne
  have H3 : Row L (row.1, row.2 ++ row.2) := ⟨w1, fun l hl => by
    rcases List.mem_append.mp hl with hl | hl <;> exact w2 l hl, by show row.1.length ≤ 40; omega, by show (row.2 ++ row.2).length ≤ 40; rw [List.length_append]; omega, fun z => ne (List.append_eq_nil_iff.mp z).1⟩
  have H4 : Row L (row.1 ++ row.2, row.2) := ⟨fun l hl => by
    rcases List.mem_append.mp hl with hl | hl
    · exact w1 l hl
    · exact w2 l hl, w2, by show (row.1 ++ row.2).length ≤ 40; rw [List.length_append]; omega, by show row.2.length ≤ 40; omega, ne⟩
  obtain ⟨e', ⟨b11, b12, b13, b14, b15, rfl⟩, h⟩ := forD_nx (b := bI) (g := setE 11) (env := eT n R L us row other tv q a9 (some v) a11 a12 a13 a14 a15) hm (fun e => ∃ a11 a12 a13 a14 a15, e = eT n R L us row other tv q a9 (some v) a11 a12 a13 a14 a15) ⟨_, _, _, _, _, rfl⟩ (by
    rintro x hx _ ⟨a11, a12, a13, a14, a15, rfl⟩
    have key : ∀ hr : Sd, Row L hr → x = dS hr → ∃ e', (∃ a11 a12 a13 a14 a15, e' = eT n R L us row other tv q a9 (some v) a11 a12 a13 a14 a15) ∧ M.bind (setE 11 x (eT n R L us row other tv q a9 (some v) a11 a12 a13 a14 a15)) bI = M.ret (.nx e') := by
      intro hr H hx
      subst hx
      obtain ⟨c12, c13, c14, c15, e⟩ := i_run (n := n) (row := row) (other := other) (tv := tv) (q := q) W H hv a9 a12 a13 a14 a15
      refine ⟨eT n R L us row other tv q a9 (some v) (some (dS hr)) c12 c13 c14 c15, ⟨_, _, _, _, _, rfl⟩, ?_⟩
      rw [setE_def, M.bind_ret]
      exact e
    simp only [List.mem_cons, List.not_mem_nil, or_false] at hx
    rcases hx with h | h | h | h
    · exact key _ Hr h
    · exact key _ Ho h
    · exact key _ H3 h
    · exact key _ H4 h)
  exact ⟨b11, b12, b13, b14, b15, h⟩
theorem consNew (S : Sto) : M.bind newT fzD S = some (.dct [] [], S ++ [.gone]) := by
  rw [M.bind_of (show newT S = some (.ref S.length, S ++ [.dct [] []]) from rfl)]
  have q := fz_refO (w := .dct [] []) (last_at S (MO.dct [] [])) rfl
  rw [push_set] at q
  exact q
theorem rest {n R L : Nat} {us : List Wy} {row other : Sd} {h l : List Int} (W : Ws R L us) (hu : us.length ≤ 12) (w1 : Wd L row.1) (w2 : Wd L row.2) (l1 : row.1.length ≤ 2) (l2 : row.2.length ≤ 4) (ne : row.2 ≠ []) (Ho : Row L other) (ih : In us h) (il : In us l) (l0 : l ≠ []) (lh : h.length ≤ 30) (ll : l.length ≤ 30) (hres : resB us row h l = true) {env0 : En} :
    Rn n (seqD (setS 8 (newD (consA (M.ret (.tup [.lst (h.map .int), .lst (l.map .int)])) (consA (M.ret (.tup [.lst (h.map .int), .lst []])) (consA (M.ret (.tup [.lst (l.map .int), .lst (l.map .int)])) (consA (M.ret .non) (consA (M.ret (.bl true)) (consA (M.ret (.str "run")) (consA (M.ret (.lst [])) (consA (M.ret (.tup [])) (consA (M.ret (.tup [.lst [], .lst [.int 0]])) (consA (M.bind newT fzD) (M.ret [])))))))))))) [some (.ref n), some (.int (L : Int)), some (.int (R : Int)), some (.lst (us.map dW)), some (dR R L us), some (dS row), some (.tup [.lst (h.map .int), .lst (l.map .int)]), some (dS other), none, none, none, none, none, none, none, none, none, none]) fun env => seqD (forD (rng1 (consA (M.ret (.int 6)) (M.ret []))) (setE 9) (fun env => exprS (bmD appD (rdE 8 env) (consA (callD 3 g_law_bent (consA (rdE 0 env) (consA (rdE 6 env) (consA (rdE 3 env) (M.ret []))))) (M.ret []))) env) env) fun env => seqD (ifS (notT (M.bind (callD 3 g_law_is_run (consA (rdE 3 env) (consA (rdE 5 env) (consA (rdE 6 env) (M.ret []))))) asB)) (retS (M.ret (.bl false))) (nxD env)) fun env => seqD (forD (M.bind (rdE 8 env) srD) (setE 10) bO env) fun env => seqD (setS 13 (M.bind (lcD (M.bind (M.bind (rdE 6 env) fun x => M.bind (M.ret (.int 1)) fun y => ixA x y) srD) [17] (setE 17) (fun env => M.bind (M.bind (M.bind (M.bind (rdE 3 env) fun x => M.bind (rdE 17 env) fun y => ixA x y) fun x => M.bind (M.ret (.int 3)) fun y => ixA x y) fun x => M.bind (M.ret (.int 1)) fun y => eqD x y) asB) (fun env => rdE 17 env) env) fun x => M.bind (lstD (M.ret [])) fun y => eqD x y) env) fun env => seqD (ifS (M.bind (M.bind (M.bind (consA (callK 0 3 [2, 1, 0] 3 g_is_clean_run (M.ret []) (consA (rdE 6 env) (consA (rdE 5 env) (consA (rdE 4 env) (M.ret []))))) (M.ret [])) reprA) fun x => M.bind (M.bind (consA (rdE 13 env) (M.ret [])) reprA) fun y => neD x y) asB) (retS (M.ret (.bl false))) (nxD env)) fun env => retS (andV (M.bind (callD 3 g_is_run (consA (rdE 4 env) (consA (rdE 5 env) (consA (rdE 6 env) (M.ret []))))) fun x => M.bind (M.ret (.bl true)) fun y => isD x y) (M.bind (M.bind (consA (callK 0 2 [1, 0] 2 g_slips_of (M.ret []) (consA (rdE 6 env) (consA (rdE 4 env) (M.ret [])))) (M.ret [])) reprA) fun x => M.bind (M.bind (consA (callD 2 g_slips_of (consA (rdE 4 env) (consA (rdE 6 env) (M.ret [])))) (M.ret [])) reprA) fun y => eqD x y)))
      fun f => f = .rt (.bl true) := by
  intro S0 h0
  have hn := h0.lt
  have Ah := AL.ints ih (by omega) lh
  have Al := AL.ints il (by omega) ll
  have Vt : VV (.tup [.lst (h.map .int), .lst (l.map .int)]) := vv_ll Ah Al (by decide) (by decide)
  have px : PL (.lst (h.map .int)) := pll (Ah.mono (by decide))
  have py : PL (.lst (l.map .int)) := pll (Al.mono (by decide))
  have tl : Tl us (.lst (h.map .int)) (.lst (l.map .int)) h l := ⟨rfl, rfl, ih, il, l0, by omega, by omega⟩
  have ht := told_of tl
  have hr : res us row (.tup [.lst (h.map .int), .lst (l.map .int)]) = true := by rw [res_some ht]; exact hres
  have hcl : closed us h l = true := by
    unfold resB at hres
    simp only [Bool.and_eq_true] at hres
    exact hres.2.2
  -- the values
  obtain ⟨vs0, hvs0⟩ : ∃ vs : List Dv, vs = [.tup [.lst (h.map .int), .lst (l.map .int)], .tup [.lst (h.map .int), .lst []], .tup [.lst (l.map .int), .lst (l.map .int)], .non, .bl true, .str "run", .lst [], .tup [], .tup [.lst [], .lst [.int 0]], .dct [] []] := ⟨_, rfl⟩
  have V0 : ∀ v ∈ vs0, VV v := by
    rw [hvs0]
    exact al1 (P := VV) Vt (al1 (vv_ll Ah AL.nil (by decide) (by decide)) (al1 (vv_ll Al Al (by decide) (by decide)) (al1 (vv_at asn) (al1 (vv_at (asb true)) (al1 (vv_at (ass (by decide +kernel) (by decide +kernel))) (al1 vv_l0 (al1 vv_t0 (al1 (vv_ll AL.nil (AL.one (asi 0 (by decide) (by decide))) (by decide) (by decide)) (al1 vv_dct al0)))))))))
  have e1 : newD (consA (M.ret (.tup [.lst (h.map .int), .lst (l.map .int)])) (consA (M.ret (.tup [.lst (h.map .int), .lst []])) (consA (M.ret (.tup [.lst (l.map .int), .lst (l.map .int)])) (consA (M.ret .non) (consA (M.ret (.bl true)) (consA (M.ret (.str "run")) (consA (M.ret (.lst [])) (consA (M.ret (.tup [])) (consA (M.ret (.tup [.lst [], .lst [.int 0]])) (consA (M.bind newT fzD) (M.ret []))))))))))) S0 = some (.ref (S0 ++ [MO.gone]).length, S0 ++ [.gone] ++ [.lst vs0]) := by
    unfold newD
    have c : consA (M.ret (.tup [.lst (h.map .int), .lst (l.map .int)])) (consA (M.ret (.tup [.lst (h.map .int), .lst []])) (consA (M.ret (.tup [.lst (l.map .int), .lst (l.map .int)])) (consA (M.ret .non) (consA (M.ret (.bl true)) (consA (M.ret (.str "run")) (consA (M.ret (.lst [])) (consA (M.ret (.tup [])) (consA (M.ret (.tup [.lst [], .lst [.int 0]])) (consA (M.bind newT fzD) (M.ret [])))))))))) S0 = some (vs0, S0 ++ [.gone]) := by
      rw [hvs0]
      exact consR (consR (consR (consR (consR (consR (consR (consR (consR (cons_of (consNew S0))))))))))
    rw [M.bind_of c]
    show (if vs0.length ≤ sizeLine then _ else none) = _
    rw [if_pos (line_ge (by rw [hvs0]; simp))]
  obtain ⟨q, hq⟩ : ∃ q, q = (S0 ++ [MO.gone]).length := ⟨_, rfl⟩
  have hq0 : S0.length ≤ q := by rw [hq]; simp
  have o1 : Old n S0 (S0 ++ [.gone] ++ [.lst vs0]) := by
    have a := old_push h0 .gone
    have b := old_push a.pot (.lst vs0)
    exact ⟨b.pot, Nat.le_trans a.len b.len, fun k hk hk2 => by rw [b.same k (by have := a.len; omega) hk2]; exact a.same k hk hk2⟩
  have s1 : (S0 ++ [.gone] ++ [.lst vs0])[q]? = some (.lst vs0) := by rw [hq]; exact last_at _ _
  rw [← hq] at e1
  obtain ⟨e2, S2, ⟨a9, vs, rfl, o2, s2, V2, len2⟩, run2⟩ := forD_idxS (S := S0 ++ [MO.gone] ++ [MO.lst vs0]) (S0 := S0 ++ [MO.gone] ++ [MO.lst vs0]) (env := eT n R L us row other (.tup [.lst (h.map .int), .lst (l.map .int)]) q none none none none none none none) (m := rng1 (consA (M.ret (.int 6)) (M.ret []))) (g := setE 9)
    (b := fun env => exprS (bmD appD (rdE 8 env) (consA (callD 3 g_law_bent (consA (rdE 0 env) (consA (rdE 6 env) (consA (rdE 3 env) (M.ret []))))) (M.ret []))) env)
    (List.range 6) (fun i => .int (i : Nat)) (fun j e S => ∃ a9, ∃ vs : List Dv, e = eT n R L us row other (.tup [.lst (h.map .int), .lst (l.map .int)]) q a9 none none none none none none ∧ Old n S0 S ∧ S[q]? = some (.lst vs) ∧ (∀ v ∈ vs, VV v) ∧ vs.length = 10 + j)
    (by rw [consA_ret]; exact rngN 6 (by decide) _) ⟨none, vs0, rfl, o1, s1, V0, by rw [hvs0]; rfl⟩ (by
      rintro j i0 hx _ S ⟨a9, vs, rfl, o, s, V, len⟩
      obtain ⟨hj, rfl⟩ := range_at hx
      have arg : Rn n (consA (callD 3 g_law_bent (M.ret [.ref n, .tup [.lst (h.map .int), .lst (l.map .int)], .lst (us.map dW)])) (M.ret [])) fun ws => ∃ w, ws = [w] ∧ VV w := by
        rw [callD_ret, if_pos (show [Dv.ref n, .tup [.lst (h.map .int), .lst (l.map .int)], .lst (us.map dW)].length = 3 from rfl)]
        exact Rn.cons (Q := fun ws => ws = []) (q_bent (by omega) ih il l0 lh ll) (.ret rfl) fun w ws hw hws => ⟨w, by rw [hws], hw⟩
      obtain ⟨w, S', hw, r1, p1, f1, sm, le⟩ := app_step arg o.pot s (by omega) (by omega)
      refine ⟨_, S', ⟨some (.int (i0 : Nat)), vs ++ [w], rfl, o.step hq0 p1 sm le, f1, fun v hv => ?_, by rw [List.length_append, len]; simp; omega⟩, ?_⟩
      · rcases List.mem_append.mp hv with hv | hv
        · exact V v hv
        · rw [List.mem_singleton.mp hv]; exact hw
      · rw [setE_def, M.bind_ret]
        exact expr_of r1)
  obtain ⟨e3, ⟨c10, c11, c12, c13, c14, c15, rfl⟩, run3⟩ := forD_liveP (S := S2) (q := q) s2 (g := setE 10) (b := bO) (env := eT n R L us row other (.tup [.lst (h.map .int), .lst (l.map .int)]) q a9 none none none none none none) (fun e => ∃ c10 c11 c12 c13 c14 c15, e = eT n R L us row other (.tup [.lst (h.map .int), .lst (l.map .int)]) q a9 c10 c11 c12 c13 c14 c15) ⟨_, _, _, _, _, _, rfl⟩ (by
    rintro x hx _ ⟨c10, c11, c12, c13, c14, c15, rfl⟩
    obtain ⟨d11, d12, d13, d14, d15, e⟩ := o_run (n := n) (tv := .tup [.lst (h.map .int), .lst (l.map .int)]) (q := q) W w1 w2 l1 l2 ne Ho (V2 x hx) a9 c11 c12 c13 c14 c15
    refine ⟨eT n R L us row other (.tup [.lst (h.map .int), .lst (l.map .int)]) q a9 (some x) d11 d12 d13 d14 d15, ⟨_, _, _, _, _, _, rfl⟩, ?_⟩
    rw [setE_def, M.bind_ret]
    exact e)
  have Hr : Row L row := .of w1 w2 l1 l2 ne
  have qr := q_law_run (us := us) ne Vt.ok
  have q1 := q_is_run (R := R) (us := us) Hr.w1 Hr.w2 Hr.l1 Hr.l2 ne Vt.ok
  have q2 := q_is_clean (R := R) (us := us) Hr.w1 Hr.w2 Hr.l1 Hr.l2 ne Vt.ok
  have es : slpL us (.tup [.lst (h.map .int), .lst (l.map .int)]) = slp us l := by unfold slpL; rw [ht]
  rw [hr] at qr q1 q2
  rw [Bool.true_and, es, sl1_zero W il] at q2
  have qs := q_slips_of (R := R) (L := L) Vt.ok ht hcl
  obtain ⟨u, hub⟩ : ∃ t, reprA [.bl (decide (sl1 us l = []))] = M.ret (.str t) := ⟨_, reprA_sm (sm_bl _) (by decide) (by decide)⟩
  obtain ⟨u2, hu2⟩ := ii_repr (bd_bound W ih (by omega)) (bd_bound W il (by omega))
  have pk : DD.pick [2, 1, 0] ([] ++ [Dv.tup [.lst (h.map .int), .lst (l.map .int)], dS row, dR R L us]) = [dR R L us, dS row, .tup [.lst (h.map .int), .lst (l.map .int)]] := rfl
  have pk2 : DD.pick [1, 0] ([] ++ [Dv.tup [.lst (h.map .int), .lst (l.map .int)], dR R L us]) = [dR R L us, .tup [.lst (h.map .int), .lst (l.map .int)]] := rfl
  refine ⟨_, S2, ?_, rfl, o2.pot, ⟨o2.len, o2.same⟩⟩
  refine (seq_of (set_of e1)).trans ?_
  refine (seq_of run2).trans ?_
  have cT : callD 3 g_law_is_run (consA (M.ret (.lst (us.map dW))) (consA (M.ret (dS row)) (consA (M.ret (.tup [.lst (h.map .int), .lst (l.map .int)])) (M.ret [])))) = M.ret (.bl true) := by
    rw [consA_ret, consA_ret, consA_ret, callD_ret, if_pos (show [Dv.lst (us.map dW), dS row, .tup [.lst (h.map .int), .lst (l.map .int)]].length = 3 from rfl), qr]
  have e4 : ifS (notT (M.bind (callD 3 g_law_is_run (consA (M.ret (.lst (us.map dW))) (consA (M.ret (dS row)) (consA (M.ret (.tup [.lst (h.map .int), .lst (l.map .int)])) (M.ret []))))) asB)) (retS (M.ret (.bl false))) (nxD (eT n R L us row other (.tup [.lst (h.map .int), .lst (l.map .int)]) q a9 none none none none none none)) = M.ret (.nx (eT n R L us row other (.tup [.lst (h.map .int), .lst (l.map .int)]) q a9 none none none none none none)) := by
    rw [cT, M.bind_ret, asB_bl, notT_ret, ifS_ret]
    rfl
  refine (seq_of (congrFun e4 S2)).trans ?_
  refine (seq_of run3).trans ?_
  have lc := lc_slips (us := us) (m := M.bind (M.bind (M.ret (.tup [.lst (h.map .int), .lst (l.map .int)])) fun x => M.bind (M.ret (.int 1)) fun y => ixA x y) srD) (w := l) (e0 := eT n R L us row other (.tup [.lst (h.map .int), .lst (l.map .int)]) q a9 c10 c11 c12 c13 c14 c15) (by
    rw [M.bind_ret, M.bind_ret, ixA_tup]
    rfl) (by omega) il rfl rfl
  have e5 : setS 13 (M.bind (lcD (M.bind (M.bind (M.ret (.tup [.lst (h.map .int), .lst (l.map .int)])) fun x => M.bind (M.ret (.int 1)) fun y => ixA x y) srD) [17] (setE 17) (fun env => M.bind (M.bind (M.bind (M.bind (rdE 3 env) fun x => M.bind (rdE 17 env) fun y => ixA x y) fun x => M.bind (M.ret (.int 3)) fun y => ixA x y) fun x => M.bind (M.ret (.int 1)) fun y => eqD x y) asB) (fun env => rdE 17 env) (eT n R L us row other (.tup [.lst (h.map .int), .lst (l.map .int)]) q a9 c10 c11 c12 c13 c14 c15)) fun x => M.bind (lstD (M.ret [])) fun y => eqD x y) (eT n R L us row other (.tup [.lst (h.map .int), .lst (l.map .int)]) q a9 c10 c11 c12 c13 c14 c15) = M.ret (.nx (eT n R L us row other (.tup [.lst (h.map .int), .lst (l.map .int)]) q a9 c10 c11 c12 (some (.bl (decide (sl1 us l = [])))) c14 c15)) := by
    rw [lc, M.bind_ret, lstD_nil, M.bind_ret, eq_nil]
    rfl
  refine (seq_of (congrFun e5 S2)).trans ?_
  unfold eT
  simp only [rdE_zero, rdE_succ, M.bind_ret, consA_ret, callK_ret, pk, pk2, List.length_cons, List.length_nil, and_self, if_pos, q2, hub, neD_str, decide_true, Bool.not_true, asB_bl, ifS_ret, Bool.false_eq_true, if_false, nxD_def, seqD_nx, callD_ret, q1, isD_bl, andV_ret, qs, hu2, eqD_str, retS_ret]
  rfl
end K31
namespace DD
open PySem PySem.Spec PyProof.Rows L2
variable [IW : HasW]
theorem Rn.cast {α : Type} {n : Nat} {m m' : M α} {P : α → Prop} (h : m = m') (r : Rn n m' P) : Rn n m P := by rw [h]; exact r
end DD
namespace K31
open PySem PySem.Spec PyProof.Rows L2 DD
variable [IW : HasW]
theorem right {n : Nat} : Rn n (g_law_right [.ref n]) fun v => v = .bl true := Rn.fn (by
  have hs : startE N_law_right.length [.ref n] = [some (.ref n), none, none, none, none, none, none, none, none, none, none, none, none, none, none, none, none, none] := rfl
  rw [hs]
  unfold b_law_right
  refine Rn.seq (P := fun e => ∃ (L R : Nat) (us : List Wy), (1 ≤ L ∧ L ≤ 2) ∧ (Ws R L us ∧ R ≤ 3 ∧ us.length ≤ 12 ∧ sortL (us.map dW) = us.map dW) ∧ e = [some (.ref n), some (.int (L : Int)), some (.int (R : Int)), some (.lst (us.map dW)), none, none, none, none, none, none, none, none, none, none, none, none, none, none]) ?_ ?_
  · unfold asgS
    refine Rn.bind (P := fun v => ∃ L : Nat, (1 ≤ L ∧ L ≤ 2) ∧ isReader L v) ?_ ?_
    · refine Rn.call (P := fun ws => ∃ L : Nat, (1 ≤ L ∧ L ≤ 2) ∧ ws = [.ref n, .int (L : Int), .int 3]) ?_ ?_
      · refine Rn.cons (P := fun v => v = .ref n) (Q := fun ws => ∃ L : Nat, (1 ≤ L ∧ L ≤ 2) ∧ ws = [.int (L : Int), .int 3]) (.ret rfl) ?_ fun v ws e ⟨L, h, e2⟩ => ⟨L, h, by rw [e, e2]⟩
        refine Rn.cons (P := fun v => ∃ L : Nat, (1 ≤ L ∧ L ≤ 2) ∧ v = .int (L : Int)) (Q := fun ws => ws = [.int 3]) ?_ (.ret rfl) fun v ws ⟨L, h, e⟩ e2 => ⟨L, h, by rw [e, e2]⟩
        simp only [rdE_zero, M.bind_ret, consA_ret, callD_ret, List.length_cons, List.length_nil, if_pos]
        refine Rn.bind (draw (k := 2) (by decide) (by decide)) ?_
        rintro _ ⟨d, rfl, hd⟩
        rw [addD_int]
        exact .ret ⟨1 + d, ⟨by omega, by omega⟩, by rw [Int.natCast_add]; rfl⟩
      · rintro _ ⟨L, h, rfl⟩
        exact ⟨rfl, (q_reader h.1 h.2).mono fun v hv => ⟨L, h, hv⟩⟩
    · rintro _ ⟨L, h, R, us, rfl, W⟩
      exact Rn.eq (a := Fl.nx [some (.ref n), some (.int (L : Int)), some (.int (R : Int)), some (.lst (us.map dW)), none, none, none, none, none, none, none, none, none, none, none, none, none, none]) rfl ⟨_, rfl, L, R, us, h, W, rfl⟩
  rintro _ ⟨L, R, us, ⟨hL1, hL2⟩, ⟨W, hR3, hu, he⟩, rfl⟩
  refine Rn.par (P := fun v w => v = dR R L us ∧ isRow L w) ?_ ?_
  · simp only [rdE_zero, rdE_succ, M.bind_ret, consA_ret, callD_ret, List.length_cons, List.length_nil, if_pos]
    exact Rn.cons (P := fun v => v = dR R L us) (Q := fun ws => ∃ w, ws = [w] ∧ isRow L w) (rn_make W he) (Rn.cons (Q := fun ws => ws = []) (q_row hL1 (by omega)) (.ret rfl) fun w ws hw hws => ⟨w, by rw [hws], hw⟩) fun v ws hv ⟨w, e, hw⟩ => ⟨v, w, by rw [e], hv, hw⟩
  rintro _ _ ⟨rfl, row, rfl, w1, w2, l1, l2, ne⟩
  refine Rn.par (P := fun v w => isTold us row v ∧ isRow L w) ?_ ?_
  · simp only [List.set_cons_succ, List.set_cons_zero, rdE_zero, rdE_succ, M.bind_ret, consA_ret, callD_ret, List.length_cons, List.length_nil, if_pos]
    exact Rn.cons (P := isTold us row) (Q := fun ws => ∃ w, ws = [w] ∧ isRow L w) (q_walk W hR3 w1 w2 ne l1 l2) (Rn.cons (Q := fun ws => ws = []) (q_row hL1 (by omega)) (.ret rfl) fun w ws hw hws => ⟨w, by rw [hws], hw⟩) fun v ws hv ⟨w, e, hw⟩ => ⟨v, w, by rw [e], hv, hw⟩
  rintro _ _ ⟨⟨h, l, rfl, ih, il, l0, lh, ll, hres⟩, other, rfl, v1, v2, k1, k2, ne2⟩
  have R0 := rest (n := n) W hu w1 w2 l1 l2 ne (Row.of v1 v2 k1 k2 ne2) ih il l0 lh ll hres (env0 := [])
  refine (Rn.cast ?_ R0).mono fun f e => ⟨.bl true, e, rfl, rfl⟩
  refine congrArg (fun m => seqD (setS 8 m _) _) ?_
  have i0 : ixA (.tup [.lst (h.map .int), .lst (l.map .int)]) (.int 0) = M.ret (.lst (h.map .int)) := by rw [ixA_tup]; rfl
  have i1 : ixA (.tup [.lst (h.map .int), .lst (l.map .int)]) (.int 1) = M.ret (.lst (l.map .int)) := by rw [ixA_tup]; rfl
  simp only [List.set_cons_succ, List.set_cons_zero, rdE_zero, rdE_succ, M.bind_ret, i0, i1, lstD_nil, lstD_1, consA_ret, tupD_2, tupD_nil])
/-- the pot -/
theorem at_W {ns : List Int} {k : Nat} (h : k < ns.length) : atI (ns.map Dv.int) (k : Int) = some (Dv.int ns[k]) :=
  atI_of (by omega) (by rw [Int.toNat_natCast, List.getElem?_map, List.getElem?_eq_getElem h]; rfl)
theorem law_pot {ns : List Int} {k : Nat} (hk : k ≤ 1000) (S : Sto) : ∃ S', gl_law_pot [.kls (ns.map .int), .int k] S = some (.ref S.length, S') ∧ Pot S.length S' ∧ Ext S S' := by
  have hs : startE N_law_pot.length [.kls (ns.map .int), .int k] = [some (.kls (ns.map .int)), some (.int k), none, none] := rfl
  have cell : ∃ c : Int, ifE (M.ret (decide ((k : Int) < ns.length))) (M.bind (consA (ixA (.kls (ns.map .int)) (.int k)) (M.ret [])) absD) (M.ret (.int (1061 * (k : Int) + 673))) = M.ret (.int c) := by
    by_cases c : k < ns.length
    · have c' : (k : Int) < ns.length := by omega
      refine ⟨if ns[k] < 0 then -ns[k] else ns[k], ?_⟩
      rw [decide_eq_true c', ifE_ret, if_pos rfl, ixA_kls, at_W c, optM_some, consA_ret, M.bind_ret, absD_int]
    · have c' : ¬ (k : Int) < ns.length := by omega
      exact ⟨_, by rw [decide_eq_false c', ifE_ret, if_neg Bool.false_ne_true]⟩
  obtain ⟨c, hc⟩ := cell
  have b1 : (0 : Int) < 2147483549 := by decide
  have b2 : (0 : Int) < 2147483563 := by decide
  have m1 := mulD_small 1061 (k : Int) (by decide) (by omega)
  have m3 := mulD_small 1811 (k : Int) (by decide) (by omega)
  have m2 := mulD_small (c % 2147483549) 41227 (by omega) (by decide)
  obtain ⟨y, hy⟩ : ∃ y, y = (c % 2147483549 * 41227 + 1811 * (k : Int) + 109) % 2147483563 := ⟨_, rfl⟩
  obtain ⟨x, hx⟩ : ∃ x : Int, x = if c - 1000000000000000000 > 0 then c - 1000000000000000000 else 0 := ⟨_, rfl⟩
  have n1 := new_ret [.int x, .int (y + 1)] (by simp) S
  have hl := last_at S (MO.lst [.int x, .int (y + 1)])
  refine ⟨S ++ [MO.lst [.int x, .int (y + 1)]], fnL_live (n := S.length) (S' := S ++ [MO.lst [.int x, .int (y + 1)]]) ?_ (Nat.le_refl _) hl rfl ((Ext.refl S).push _), ⟨x, y + 1, hl, by omega, by omega⟩, (Ext.refl S).push _⟩
  rw [hs]
  unfold bl_law_pot
  simp only [rdE_zero, rdE_succ, M.bind_ret, consA_ret, lenA_kls, List.length_map, ltD_int, asB_bl, m1, addD_int, hc, setS_ret, List.set_cons_succ, List.set_cons_zero, seqD_nx, powD_1018, subD_int, maxD_int, intD_int, modD_int _ _ b1, m2, m3, modD_int _ _ b2, ← hy, ← hx]
  exact ret_of n1
theorem law_true : ∀ ns : List Int, ns.length ≤ 63 → ∃ S', g_law [.kls (ns.map .int)] [] = some (.bl true, S') := by
  intro ns hn
  have hs : startE N_law.length [.kls (ns.map .int)] = [some (.kls (ns.map .int))] := rfl
  obtain ⟨S1, p1, p2, p3⟩ := law_pot (ns := ns) (k := 0) (by omega) []
  have p1 : gl_law_pot [.kls (ns.map .int), .int 0] [] = some (.ref 0, S1) := p1
  obtain ⟨v, S2, r1, rfl, r3, r4⟩ := right (n := 0) S1 p2
  refine ⟨S2.take ([] : Sto).length, fnM_of (w := .bl true) ?_ rfl (fun n ws hn _ => absurd hn (Nat.not_lt_zero n))⟩
  rw [hs]
  unfold b_law
  refine ret_of ?_
  simp only [rdE_zero, rdE_succ, M.bind_ret, consA_ret, callD_ret, List.length_cons, List.length_nil, if_pos]
  rw [call_of (n := 1) (cons_of p1) rfl]
  exact r1
end K31
open PySem PySem.W PyProof.Rows
set_option maxHeartbeats 0 in
theorem PySem.Challenge.cw_settledhands_k31_whole_any_value_as_run_holds : PySem.Challenge.rw_settledhands_k31_whole_any_value_as_run.Holds := by
  w_on; o_law; k_head; (case hw => w_witness2)
  k_fill
  refine DD.walk_ofI (l := PySem.Challenge.rw_settledhands_k31_whole_any_value_as_run) (n := 63) (k := 9) (x := "script") (g := K31.g_law) rfl (by decide) rfl ⟨rfl, by decide, by decide⟩ (fun w h Y => PySem.W.kIn_of Y) ?F ?L
  case F =>
    intro w mg fa h KX G hmg
    have hT : ∃ (IW : DD.HasW) (T : @K31.Tx IW (L2.KOf KX) mg), IW.P = (PySem.Challenge.rw_settledhands_k31_whole_any_value_as_run).prog ∧ IW.w = w ∧ T.a_law = fa := by
      refine' (K31.all_mk _ w KX G ?aC_Reader ?a0 ?l0 ?c0 ?k0 ?a1 ?l1 ?c1 ?k1 ?a2 ?l2 ?c2 ?k2 ?a3 ?l3 ?c3 ?k3 ?a4 ?l4 ?c4 ?k4 ?a5 ?l5 ?c5 ?k5 ?a6 ?l6 ?c6 ?k6 ?a7 ?l7 ?c7 ?k7 ?a8 ?l8 ?c8 ?k8 ?a9 ?l9 ?c9 ?k9 ?a10 ?l10 ?c10 ?k10 ?a11 ?l11 ?c11 ?k11 ?a12 ?l12 ?c12 ?k12 ?a13 ?l13 ?c13 ?k13 ?a14 ?l14 ?c14 ?k14 ?a15 ?l15 ?c15 ?k15 ?a16 ?l16 ?c16 ?k16 ?a17 ?l17 ?c17 ?k17 ?a18 ?l18 ?c18 ?k18 ?a19 ?l19 ?c19 ?k19 ?a20 ?l20 ?c20 ?k20 ?a21 ?l21 ?c21 ?k21 ?a22 ?l22 ?c22 ?k22 ?a23 ?l23 ?c23 ?k23 ?a24 ?l24 ?c24 ?k24 ?a25 ?l25 ?c25 ?k25 ?a26 ?l26 ?c26 ?k26 ?a27 ?i27 ?l27 ?c27 ?k27 ?a28 ?l28 ?c28 ?k28 ?a29 ?l29 ?c29 ?k29 ?a30 ?l30 ?c30 ?k30 ?a31 ?l31 ?c31 ?k31 ?a32 ?l32 ?c32 ?k32 ?a33 ?l33 ?c33 ?k33 ?a34 ?l34 ?c34 ?k34 ?a35 ?l35 ?c35 ?k35 ?hn0 ?ht0 ?pg_Reader ?hd_Reader ?po_Reader ?sa_Reader ?mk_Reader ?kc_Reader ?ha_Reader ?hm_Reader ?ty_Reader ?i1_Reader ?i2_Reader ?i3_Reader ?i4_Reader ?i5_Reader ?i6_Reader ?i7_Reader ?i8_Reader ?n_Reader_own_by ?n_Reader_own_letters ?n_Reader_own_rooms ?n_Reader_own_ways ?z_abs ?z_all ?z_bool ?z_divmod ?z_enumerate ?z_int ?z_isinstance ?z_len ?z_list ?z_max ?z_range ?z_repr ?z_set ?z_sorted ?z_sum ?z_tuple ?y_MOST_BEGIN ?y_MOST_HEAD ?y_MOST_LETTERS ?y_MOST_LOOP ?y_MOST_ROOMS ?y_MOST_WAYS ?y_WAY_PARTS).imp fun IW h => h.imp fun T e => ⟨e.1, e.2.1, e.2.2.trans ?fin⟩
      (case aC_Reader => k_is)
      (case a0 => k_is)
      (case l0 => k_is)
      (case c0 => k_is)
      (case k0 => k_is)
      (case a1 => k_is)
      (case l1 => k_is)
      (case c1 => k_is)
      (case k1 => k_is)
      (case a2 => k_is)
      (case l2 => k_is)
      (case c2 => k_is)
      (case k2 => k_is)
      (case a3 => k_is)
      (case l3 => k_is)
      (case c3 => k_is)
      (case k3 => k_is)
      (case a4 => k_is)
      (case l4 => k_is)
      (case c4 => k_is)
      (case k4 => k_is)
      (case a5 => k_is)
      (case l5 => k_is)
      (case c5 => k_is)
      (case k5 => k_is)
      (case a6 => k_is)
      (case l6 => k_is)
      (case c6 => k_is)
      (case k6 => k_is)
      (case a7 => k_is)
      (case l7 => k_is)
      (case c7 => k_is)
      (case k7 => k_is)
      (case a8 => k_is)
      (case l8 => k_is)
      (case c8 => k_is)
      (case k8 => k_is)
      (case a9 => k_is)
      (case l9 => k_is)
      (case c9 => k_is)
      (case k9 => k_is)
      (case a10 => k_is)
      (case l10 => k_is)
      (case c10 => k_is)
      (case k10 => k_is)
      (case a11 => k_is)
      (case l11 => k_is)
      (case c11 => k_is)
      (case k11 => k_is)
      (case a12 => k_is)
      (case l12 => k_is)
      (case c12 => k_is)
      (case k12 => k_is)
      (case a13 => k_is)
      (case l13 => k_is)
      (case c13 => k_is)
      (case k13 => k_is)
      (case a14 => k_is)
      (case l14 => k_is)
      (case c14 => k_is)
      (case k14 => k_is)
      (case a15 => k_is)
      (case l15 => k_is)
      (case c15 => k_is)
      (case k15 => k_is)
      (case a16 => k_is)
      (case l16 => k_is)
      (case c16 => k_is)
      (case k16 => k_is)
      (case a17 => k_is)
      (case l17 => k_is)
      (case c17 => k_is)
      (case k17 => k_is)
      (case a18 => k_is)
      (case l18 => k_is)
      (case c18 => k_is)
      (case k18 => k_is)
      (case a19 => k_is)
      (case l19 => k_is)
      (case c19 => k_is)
      (case k19 => k_is)
      (case a20 => k_is)
      (case l20 => k_is)
      (case c20 => k_is)
      (case k20 => k_is)
      (case a21 => k_is)
      (case l21 => k_is)
      (case c21 => k_is)
      (case k21 => k_is)
      (case a22 => k_is)
      (case l22 => k_is)
      (case c22 => k_is)
      (case k22 => k_is)
      (case a23 => k_is)
      (case l23 => k_is)
      (case c23 => k_is)
      (case k23 => k_is)
      (case a24 => k_is)
      (case l24 => k_is)
      (case c24 => k_is)
      (case k24 => k_is)
      (case a25 => k_is)
      (case l25 => k_is)
      (case c25 => k_is)
      (case k25 => k_is)
      (case a26 => k_is)
      (case l26 => k_is)
      (case c26 => k_is)
      (case k26 => k_is)
      (case a27 => k_is)
      (case i27 => k_is)
      (case l27 => k_is)
      (case c27 => k_is)
      (case k27 => k_is)
      (case a28 => k_is)
      (case l28 => k_is)
      (case c28 => k_is)
      (case k28 => k_is)
      (case a29 => k_is)
      (case l29 => k_is)
      (case c29 => k_is)
      (case k29 => k_is)
      (case a30 => k_is)
      (case l30 => k_is)
      (case c30 => k_is)
      (case k30 => k_is)
      (case a31 => k_is)
      (case l31 => k_is)
      (case c31 => k_is)
      (case k31 => k_is)
      (case a32 => k_is)
      (case l32 => k_is)
      (case c32 => k_is)
      (case k32 => k_is)
      (case a33 => k_is)
      (case l33 => k_is)
      (case c33 => k_is)
      (case k33 => k_is)
      (case a34 => k_is)
      (case l34 => k_is)
      (case c34 => k_is)
      (case k34 => k_is)
      (case a35 => k_is)
      (case l35 => k_is)
      (case c35 => k_is)
      (case k35 => k_is)
      (case hn0 => k_is)
      (case ht0 => k_is)
      (case pg_Reader => k_is)
      (case hd_Reader => k_is)
      (case po_Reader => k_is)
      (case sa_Reader => k_is)
      (case mk_Reader => k_is)
      (case kc_Reader => k_is)
      (case ha_Reader => k_is)
      (case hm_Reader => k_is)
      (case ty_Reader => k_is)
      (case i1_Reader => k_is)
      (case i2_Reader => k_is)
      (case i3_Reader => k_is)
      (case i4_Reader => k_is)
      (case i5_Reader => k_is)
      (case i6_Reader => k_is)
      (case i7_Reader => k_is)
      (case i8_Reader => k_is)
      (case n_Reader_own_by => k_is)
      (case n_Reader_own_letters => k_is)
      (case n_Reader_own_rooms => k_is)
      (case n_Reader_own_ways => k_is)
      (case z_abs => k_is)
      (case z_all => k_is)
      (case z_bool => k_is)
      (case z_divmod => k_is)
      (case z_enumerate => k_is)
      (case z_int => k_is)
      (case z_isinstance => k_is)
      (case z_len => k_is)
      (case z_list => k_is)
      (case z_max => k_is)
      (case z_range => k_is)
      (case z_repr => k_is)
      (case z_set => k_is)
      (case z_sorted => k_is)
      (case z_sum => k_is)
      (case z_tuple => k_is)
      (case y_MOST_BEGIN => k_is)
      (case y_MOST_HEAD => k_is)
      (case y_MOST_LETTERS => k_is)
      (case y_MOST_LOOP => k_is)
      (case y_MOST_ROOMS => k_is)
      (case y_MOST_WAYS => k_is)
      (case y_WAY_PARTS => k_is)
      (case fin => exact Value.ref.inj (Option.some.inj ((PySem.W.mg_of KX G (by k_is)).symm.trans hmg)))
    exact K31.fin_mk hT
  case L => exact fun IW => @K31.law_true IW
