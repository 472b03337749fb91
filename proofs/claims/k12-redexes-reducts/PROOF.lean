import PyProof.Rows.All
import Wide.All
import OpenK.AllK
import Wide.FinOn
import HandS.ForMost
import HandS.Walk
import HandS.ExcField
import HandS.HeadHook1
import HandS.HeadHook2
import HandS.Head0
import HandS.Head1
import HandS.Head2
import HandS.HeadEnd
import HandS.HeadHook3
import HandS.HeadHook4
import KE.KStateDown
import Lean
import HandS.ForExc
import HandS.ExcInit
import HandS.Wide
import HandS.IsInst
import HandS.Flow
import HandS.CallSlots
import HandS.TupAny
import HandS.Style
import HandS.Deep
import HandS.StrMore
import HandS.RevRange
import HandS.Zip
import HandS.More
import HandS.Defaults
import HandS.ExcCtx
import HandS.HotCalls
import HandS.ExcInitHot
import KE.GoesEnum
import HandS.Iter
import HandS.ExcIs
import KE.KExcIs
import HandS.Conv
import PySem.Challenge.RW_betweenkinds_k12_redexes_reducts
set_option Elab.async false
set_option linter.all false
set_option maxRecDepth 100000
namespace TL
open PySem PySem.Spec PyProof.Rows L2

/-! ### trees, slots, what they stand for -/
inductive T where
  | non | bl (b : Bool) | int (i : Int) | str (x : Str) | adr (v : V)
  | tup (xs : List T) | lst (xs : List T) | ktp (xs : List T) | kls (xs : List T)
  | dic (ks : List Key) (xs : List T) | dit (ks : List (List Key)) (xs : List T)
  | ins (C : Addr) (fs : List Str) (xs : List T)
  | xd (fs : List Str) (xs : List T) | exn (a d C : Addr) (fs : List Str) (xs : List T)
inductive O where
  | sh (t : T)
  | lst (xs : List O)
  | dic (ks : List Key) (xs : List O) | dit (ks : List (List Key)) (xs : List O)
  | ins (C : Addr) (fs : List Str) (xs : List O)
  | io (v : V) (o : O)

mutual
def Rep (K : PySem.W.Frag) (S : Hp) : T → V → Prop
  | .non, v => v = .non
  | .bl b, v => v = .bl b
  | .int i, v => v = .int i
  | .str x, v => v = .str x
  | .adr u, v => v = u
  | .tup xs, v => ∃ a vs, v = .ref a ∧ S a = some (.tup vs) ∧ Reps K S xs vs
  | .lst xs, v => ∃ a vs, v = .ref a ∧ S a = some (.lst vs) ∧ Reps K S xs vs
  | .ktp xs, v => ∃ a vs, v = .ref a ∧ SqT K S a vs ∧ Reps K S xs vs
  | .kls xs, v => ∃ a vs, v = .ref a ∧ SqL K S a vs ∧ Reps K S xs vs
  | .dic ks xs, v => ∃ a vs, v = .ref a ∧ S a = some (.dK (ks.zip vs)) ∧ ks.length = xs.length ∧ Reps K S xs vs
  | .dit ks xs, v => ∃ a vs, v = .ref a ∧ S a = some (.dT (ks.zip vs)) ∧ ks.length = xs.length ∧ Reps K S xs vs
  | .ins C fs xs, v => ∃ a dx vs, v = .ref a ∧ S a = some (.ins C dx (fs.zip vs)) ∧ fs.length = xs.length ∧ Reps K S xs vs
  | .xd fs xs, v => ∃ a vs, v = .ref a ∧ S a = some (.xd (fs.zip vs)) ∧ fs.length = xs.length ∧ Reps K S xs vs
  | .exn a d _ fs xs, v => v = .ref a ∧ ∃ vs, S d = some (.xd (fs.zip vs)) ∧ fs.length = xs.length ∧ Reps K S xs vs
def Reps (K : PySem.W.Frag) (S : Hp) : List T → List V → Prop
  | [], vs => vs = []
  | x :: xs, vs => ∃ v r, vs = v :: r ∧ Rep K S x v ∧ Reps K S xs r
end
mutual
def Own (K : PySem.W.Frag) (H S : Hp) : O → V → List Addr → Prop
  | .sh t, v, fp => fp = [] ∧ Rep K S t v
  | .lst os, v, fp => ∃ a vs fq, v = .ref a ∧ H a = some (.lst vs) ∧ Owns K H S os vs fq ∧ fp = a :: fq
  | .dic ks os, v, fp => ∃ a vs fq, v = .ref a ∧ H a = some (.dK (ks.zip vs)) ∧ ks.length = os.length ∧ Owns K H S os vs fq ∧ fp = a :: fq
  | .dit ks os, v, fp => ∃ a vs fq, v = .ref a ∧ H a = some (.dT (ks.zip vs)) ∧ ks.length = os.length ∧ Owns K H S os vs fq ∧ fp = a :: fq
  | .ins C fs os, v, fp => ∃ a dx vs fq, v = .ref a ∧ H a = some (.ins C dx (fs.zip vs)) ∧ H dx = some (.own a) ∧ fs.length = os.length ∧ Owns K H S os vs fq ∧ fp = a :: dx :: fq
  | .io v0 o, v, fp => v = v0 ∧ Own K H S o v fp
def Owns (K : PySem.W.Frag) (H S : Hp) : List O → List V → List Addr → Prop
  | [], vs, fp => vs = [] ∧ fp = []
  | o :: os, vs, fp => ∃ v r f1 f2, vs = v :: r ∧ Own K H S o v f1 ∧ Owns K H S os r f2 ∧ fp = f1 ++ f2
end
mutual
def O.t : O → T
  | .sh t => t
  | .lst os => .lst (O.ts os)
  | .dic ks os => .dic ks (O.ts os)
  | .dit ks os => .dit ks (O.ts os)
  | .ins C fs os => .ins C fs (O.ts os)
  | .io _ o => O.t o
def O.ts : List O → List T
  | [] => []
  | o :: os => O.t o :: O.ts os
end
abbrev R := List (Option O)

/-! ### more in the heap -/
theorem SqT.mono {K : PySem.W.Frag} {H H' : Hp} {a : Addr} {xs : List V} (e : Same H H') (h : SqT K H a xs) : SqT K H' a xs := by
  rcases h with (h | ⟨o, h⟩) | h
  · exact .inl (.inl (e _ _ h))
  · exact .inl (.inr ⟨o, e _ _ h⟩)
  · exact .inr h
mutual
theorem Rep.mono {K : PySem.W.Frag} {S S' : Hp} (e : Same S S') : ∀ {t : T} {v : V}, Rep K S t v → Rep K S' t v
  | .non, _, h => h
  | .bl _, _, h => h
  | .int _, _, h => h
  | .str _, _, h => h
  | .adr _, _, h => h
  | .tup xs, _, h => let ⟨a, vs, h1, h2, h3⟩ := h; ⟨a, vs, h1, e _ _ h2, Reps.mono e h3⟩
  | .lst xs, _, h => let ⟨a, vs, h1, h2, h3⟩ := h; ⟨a, vs, h1, e _ _ h2, Reps.mono e h3⟩
  | .ktp xs, _, h => let ⟨a, vs, h1, h2, h3⟩ := h; ⟨a, vs, h1, SqT.mono e h2, Reps.mono e h3⟩
  | .kls xs, _, h => let ⟨a, vs, h1, h2, h3⟩ := h; ⟨a, vs, h1, Same.seq e h2, Reps.mono e h3⟩
  | .dic ks xs, _, h => let ⟨a, vs, h1, h2, h4, h3⟩ := h; ⟨a, vs, h1, e _ _ h2, h4, Reps.mono e h3⟩
  | .dit ks xs, _, h => let ⟨a, vs, h1, h2, h4, h3⟩ := h; ⟨a, vs, h1, e _ _ h2, h4, Reps.mono e h3⟩
  | .ins C fs xs, _, h => let ⟨a, dx, vs, h1, h2, h4, h3⟩ := h; ⟨a, dx, vs, h1, e _ _ h2, h4, Reps.mono e h3⟩
  | .xd fs xs, _, h => let ⟨a, vs, h1, h2, h4, h3⟩ := h; ⟨a, vs, h1, e _ _ h2, h4, Reps.mono e h3⟩
  | .exn a d C fs xs, _, h => let ⟨h1, vs, h2, h4, h3⟩ := h; ⟨h1, vs, e _ _ h2, h4, Reps.mono e h3⟩
theorem Reps.mono {K : PySem.W.Frag} {S S' : Hp} (e : Same S S') : ∀ {ts : List T} {vs : List V}, Reps K S ts vs → Reps K S' ts vs
  | [], _, h => h
  | _ :: _, _, h => let ⟨v, r, h1, h2, h3⟩ := h; ⟨v, r, h1, Rep.mono e h2, Reps.mono e h3⟩
end
mutual
theorem Own.mono {K : PySem.W.Frag} {H H' S S' : Hp} (e : Same S S') : ∀ {o : O} {v : V} {fp : List Addr}, (∀ a ∈ fp, H' a = H a) → Own K H S o v fp → Own K H' S' o v fp
  | .sh t, _, _, _, h => ⟨h.1, Rep.mono e h.2⟩
  | .lst os, _, _, q, h => by
    obtain ⟨a, vs, fq, h1, h2, h3, rfl⟩ := h
    exact ⟨a, vs, fq, h1, by rw [q a List.mem_cons_self]; exact h2, Owns.mono e (fun b hb => q b (List.mem_cons_of_mem _ hb)) h3, rfl⟩
  | .dic ks os, _, _, q, h => by
    obtain ⟨a, vs, fq, h1, h2, h4, h3, rfl⟩ := h
    exact ⟨a, vs, fq, h1, by rw [q a List.mem_cons_self]; exact h2, h4, Owns.mono e (fun b hb => q b (List.mem_cons_of_mem _ hb)) h3, rfl⟩
  | .dit ks os, _, _, q, h => by
    obtain ⟨a, vs, fq, h1, h2, h4, h3, rfl⟩ := h
    exact ⟨a, vs, fq, h1, by rw [q a List.mem_cons_self]; exact h2, h4, Owns.mono e (fun b hb => q b (List.mem_cons_of_mem _ hb)) h3, rfl⟩
  | .ins C fs os, _, _, q, h => by
    obtain ⟨a, dx, vs, fq, h1, h2, h5, h4, h3, rfl⟩ := h
    exact ⟨a, dx, vs, fq, h1, by rw [q a List.mem_cons_self]; exact h2, by rw [q dx (List.mem_cons_of_mem _ List.mem_cons_self)]; exact h5, h4, Owns.mono e (fun b hb => q b (List.mem_cons_of_mem _ (List.mem_cons_of_mem _ hb))) h3, rfl⟩
  | .io v0 o, _, _, q, h => ⟨h.1, Own.mono e q h.2⟩
theorem Owns.mono {K : PySem.W.Frag} {H H' S S' : Hp} (e : Same S S') : ∀ {os : List O} {vs : List V} {fp : List Addr}, (∀ a ∈ fp, H' a = H a) → Owns K H S os vs fp → Owns K H' S' os vs fp
  | [], _, _, _, h => h
  | _ :: _, _, _, q, h => by
    obtain ⟨v, r, f1, f2, h1, h2, h3, rfl⟩ := h
    exact ⟨v, r, f1, f2, h1, Own.mono e (fun b hb => q b (List.mem_append_left _ hb)) h2, Owns.mono e (fun b hb => q b (List.mem_append_right _ hb)) h3, rfl⟩
end
mutual
theorem Own.frz {K : PySem.W.Frag} {H S S' : Hp} (e : Same S S') : ∀ {o : O} {v : V} {fp : List Addr}, (∀ a ∈ fp, S' a = H a) → Own K H S o v fp → Rep K S' o.t v
  | .sh t, _, _, _, h => Rep.mono e h.2
  | .lst os, _, _, q, h => by
    obtain ⟨a, vs, fq, h1, h2, h3, rfl⟩ := h
    exact ⟨a, vs, h1, by rw [q a List.mem_cons_self]; exact h2, Owns.frz e (fun b hb => q b (List.mem_cons_of_mem _ hb)) h3⟩
  | .dic ks os, _, _, q, h => by
    obtain ⟨a, vs, fq, h1, h2, h4, h3, rfl⟩ := h
    exact ⟨a, vs, h1, by rw [q a List.mem_cons_self]; exact h2, h4.trans (Owns.len h3).2, Owns.frz e (fun b hb => q b (List.mem_cons_of_mem _ hb)) h3⟩
  | .dit ks os, _, _, q, h => by
    obtain ⟨a, vs, fq, h1, h2, h4, h3, rfl⟩ := h
    exact ⟨a, vs, h1, by rw [q a List.mem_cons_self]; exact h2, h4.trans (Owns.len h3).2, Owns.frz e (fun b hb => q b (List.mem_cons_of_mem _ hb)) h3⟩
  | .ins C fs os, _, _, q, h => by
    obtain ⟨a, dx, vs, fq, h1, h2, h5, h4, h3, rfl⟩ := h
    exact ⟨a, dx, vs, h1, by rw [q a List.mem_cons_self]; exact h2, h4.trans (Owns.len h3).2, Owns.frz e (fun b hb => q b (List.mem_cons_of_mem _ (List.mem_cons_of_mem _ hb))) h3⟩
  | .io v0 o, _, _, q, h => Own.frz (o := o) e q h.2
theorem Owns.frz {K : PySem.W.Frag} {H S S' : Hp} (e : Same S S') : ∀ {os : List O} {vs : List V} {fp : List Addr}, (∀ a ∈ fp, S' a = H a) → Owns K H S os vs fp → Reps K S' (O.ts os) vs
  | [], _, _, _, h => h.1
  | _ :: _, _, _, q, h => by
    obtain ⟨v, r, f1, f2, h1, h2, h3, rfl⟩ := h
    exact ⟨v, r, h1, Own.frz e (fun b hb => q b (List.mem_append_left _ hb)) h2, Owns.frz e (fun b hb => q b (List.mem_append_right _ hb)) h3⟩
theorem Owns.len {K : PySem.W.Frag} {H S : Hp} : ∀ {os : List O} {vs : List V} {fp : List Addr}, Owns K H S os vs fp → os.length = vs.length ∧ os.length = (O.ts os).length
  | [], _, _, h => by rw [h.1]; exact ⟨rfl, rfl⟩
  | o :: os, _, _, h => by
    obtain ⟨v, r, f1, f2, rfl, h2, h3, _⟩ := h
    have := Owns.len h3
    simp only [List.length_cons, O.ts]
    omega
end
mutual
theorem Own.there {K : PySem.W.Frag} {H S : Hp} : ∀ {o : O} {v : V} {fp : List Addr}, Own K H S o v fp → ∀ a ∈ fp, H a ≠ none
  | .sh t, _, _, h => by rw [h.1]; intro a ha; cases ha
  | .lst os, _, _, h => by
    obtain ⟨a, vs, fq, h1, h2, h3, rfl⟩ := h
    intro b hb
    rcases List.mem_cons.mp hb with rfl | hb
    · rw [h2]; intro z; cases z
    · exact Owns.there h3 b hb
  | .dic ks os, _, _, h => by
    obtain ⟨a, vs, fq, h1, h2, h4, h3, rfl⟩ := h
    intro b hb
    rcases List.mem_cons.mp hb with rfl | hb
    · rw [h2]; intro z; cases z
    · exact Owns.there h3 b hb
  | .dit ks os, _, _, h => by
    obtain ⟨a, vs, fq, h1, h2, h4, h3, rfl⟩ := h
    intro b hb
    rcases List.mem_cons.mp hb with rfl | hb
    · rw [h2]; intro z; cases z
    · exact Owns.there h3 b hb
  | .ins C fs os, _, _, h => by
    obtain ⟨a, dx, vs, fq, h1, h2, h5, h4, h3, rfl⟩ := h
    intro b hb
    rcases List.mem_cons.mp hb with rfl | hb
    · rw [h2]; intro z; cases z
    · rcases List.mem_cons.mp hb with rfl | hb
      · rw [h5]; intro z; cases z
      · exact Owns.there h3 b hb
  | .io v0 o, _, _, h => Own.there (o := o) h.2
theorem Owns.there {K : PySem.W.Frag} {H S : Hp} : ∀ {os : List O} {vs : List V} {fp : List Addr}, Owns K H S os vs fp → ∀ a ∈ fp, H a ≠ none
  | [], _, _, h => by rw [h.2]; intro a ha; cases ha
  | _ :: _, _, _, h => by
    obtain ⟨v, r, f1, f2, h1, h2, h3, rfl⟩ := h
    intro b hb
    rcases List.mem_append.mp hb with hb | hb
    · exact Own.there h2 b hb
    · exact Owns.there h3 b hb
end
theorem Owns.app {K : PySem.W.Frag} {H S : Hp} : ∀ {o1 o2 : List O} {v1 v2 : List V} {f1 f2 : List Addr}, Owns K H S o1 v1 f1 → Owns K H S o2 v2 f2 → Owns K H S (o1 ++ o2) (v1 ++ v2) (f1 ++ f2)
  | [], _, _, _, _, _, h, g => by
    obtain ⟨rfl, rfl⟩ := h
    exact g
  | _ :: _, _, _, _, _, _, h, g => by
    obtain ⟨v, r, f1, f2, rfl, h2, h3, rfl⟩ := h
    exact ⟨v, r ++ _, f1, f2 ++ _, rfl, h2, Owns.app h3 g, by rw [List.append_assoc]⟩
theorem Owns.split {K : PySem.W.Frag} {H S : Hp} : ∀ {o1 o2 : List O} {vs : List V} {fp : List Addr}, Owns K H S (o1 ++ o2) vs fp → ∃ v1 v2 f1 f2, vs = v1 ++ v2 ∧ fp = f1 ++ f2 ∧ Owns K H S o1 v1 f1 ∧ Owns K H S o2 v2 f2
  | [], _, vs, fp, h => ⟨[], vs, [], fp, rfl, rfl, ⟨rfl, rfl⟩, h⟩
  | _ :: _, _, _, _, h => by
    obtain ⟨v, r, f1, f2, rfl, h2, h3, rfl⟩ := h
    obtain ⟨v1, v2, g1, g2, rfl, rfl, a, b⟩ := Owns.split h3
    exact ⟨v :: v1, v2, f1 ++ g1, g2, rfl, by rw [List.append_assoc], ⟨v, v1, f1, g1, rfl, h2, a, rfl⟩, b⟩
theorem Owns.one {K : PySem.W.Frag} {H S : Hp} {o : O} {v : V} {f : List Addr} (h : Own K H S o v f) : Owns K H S [o] [v] f := ⟨v, [], f, [], rfl, h, ⟨rfl, rfl⟩, by simp⟩
theorem Owns.of_one {K : PySem.W.Frag} {H S : Hp} {o : O} {vs : List V} {f : List Addr} (h : Owns K H S [o] vs f) : ∃ v, vs = [v] ∧ Own K H S o v f := by
  obtain ⟨v, r, f1, f2, rfl, h2, ⟨rfl, rfl⟩, rfl⟩ := h
  exact ⟨v, rfl, by simpa using h2⟩
theorem Reps.len {K : PySem.W.Frag} {S : Hp} : ∀ {ts : List T} {vs : List V}, Reps K S ts vs → ts.length = vs.length
  | [], _, h => by rw [show _ = [] from h]; rfl
  | _ :: _, _, h => by
    obtain ⟨v, r, rfl, _, h3⟩ := h
    simp [Reps.len h3]
theorem Reps.app {K : PySem.W.Frag} {S : Hp} : ∀ {o1 o2 : List T} {v1 v2 : List V}, Reps K S o1 v1 → Reps K S o2 v2 → Reps K S (o1 ++ o2) (v1 ++ v2)
  | [], _, _, _, h, g => by
    rw [show _ = [] from h]
    exact g
  | _ :: _, _, _, _, h, g => by
    obtain ⟨v, r, rfl, h2, h3⟩ := h
    exact ⟨v, r ++ _, rfl, h2, Reps.app h3 g⟩
theorem Reps.get {K : PySem.W.Frag} {S : Hp} : ∀ {ts : List T} {vs : List V} {i : Nat} {t : T}, Reps K S ts vs → ts[i]? = some t → ∃ v, vs[i]? = some v ∧ Rep K S t v
  | [], _, _, _, _, e => by simp at e
  | x :: ts, _, 0, t, h, e => by
    obtain ⟨v, r, rfl, h2, h3⟩ := h
    simp at e
    subst e
    exact ⟨v, rfl, h2⟩
  | x :: ts, _, i + 1, t, h, e => by
    obtain ⟨v, r, rfl, h2, h3⟩ := h
    obtain ⟨u, e1, e2⟩ := Reps.get (i := i) h3 (by simpa using e)
    exact ⟨u, by simpa using e1, e2⟩
theorem Reps.of {K : PySem.W.Frag} {S : Hp} : ∀ {ts : List T} {vs : List V}, ts.length = vs.length → (∀ (i : Nat) (t : T) (v : V), ts[i]? = some t → vs[i]? = some v → Rep K S t v) → Reps K S ts vs
  | [], [], _, _ => rfl
  | [], _ :: _, e, _ => by simp at e
  | _ :: _, [], e, _ => by simp at e
  | t :: ts, v :: vs, e, h => ⟨v, vs, rfl, h 0 t v rfl rfl, Reps.of (by simpa using e) fun i t' v' h1 h2 => h (i + 1) t' v' (by simpa using h1) (by simpa using h2)⟩
theorem Owns.sh {K : PySem.W.Frag} {H S : Hp} : ∀ {ts : List T} {vs : List V}, Reps K S ts vs → Owns K H S (ts.map .sh) vs []
  | [], _, h => ⟨h, rfl⟩
  | _ :: _, _, h => by
    obtain ⟨v, r, rfl, h2, h3⟩ := h
    exact ⟨v, r, [], [], rfl, ⟨rfl, h2⟩, Owns.sh h3, rfl⟩
theorem O.ts_app : ∀ (a b : List O), O.ts (a ++ b) = O.ts a ++ O.ts b
  | [], _ => rfl
  | o :: a, b => by rw [List.cons_append, O.ts, O.ts, O.ts_app a b, List.cons_append]
theorem O.ts_sh : ∀ (ts : List T), O.ts (ts.map .sh) = ts
  | [] => rfl
  | t :: ts => by rw [List.map_cons, O.ts, O.t, O.ts_sh ts]
theorem O.ts_map : ∀ (os : List O), O.ts os = os.map O.t
  | [] => rfl
  | o :: os => by rw [O.ts, O.ts_map os, List.map_cons]

/-! ### the simulation -/
structure Sm (K : PySem.W.Frag) (B Wd : Hp) (os : R) (vs : L2.St) (H S : Hp) (fp : Nat → List Addr) : Prop where
  bs : Same B S
  sh : Same S H
  wd : Same Wd H
  len : os.length = vs.length
  own : ∀ i o, os[i]? = some (some o) → ∃ v, vs[i]? = some (some v) ∧ Own K H S o v (fp i)
  nd : ∀ i, (fp i).Nodup
  dj : ∀ i j a, i ≠ j → a ∈ fp i → a ∉ fp j
  sn : ∀ i a, a ∈ fp i → S a = none
  hn : ∀ i a, a ∈ fp i → H a ≠ none
  ws : ∀ a, Wd a ≠ none → S a = none
  wf : ∀ i a, a ∈ fp i → Wd a = none
def Sim (K : PySem.W.Frag) (B Wd : Hp) (os : R) (vs : L2.St) (H : Hp) : Prop := ∃ S fp, Sm K B Wd os vs H S fp

section
variable {K : PySem.W.Frag} {B Wd H S : Hp} {os : R} {vs : L2.St} {fp : Nat → List Addr} {o : O} {v : V} {i : Nat} {t : T}
theorem Sim.len (h : Sim K B Wd os vs H) : os.length = vs.length := let ⟨_, _, s⟩ := h; s.len
/-- the base may be the shared part itself -/
theorem Sm.self (s : Sm K B Wd os vs H S fp) : Sm K S Wd os vs H S fp := ⟨Same.refl _, s.sh, s.wd, s.len, s.own, s.nd, s.dj, s.sn, s.hn, s.ws, s.wf⟩
theorem Sim.rebase {B' : Hp} (e : Same B B') (h : Sim K B' Wd os vs H) : Sim K B Wd os vs H := by
  obtain ⟨S, fp, s⟩ := h
  exact ⟨S, fp, e.trans s.bs, s.sh, s.wd, s.len, s.own, s.nd, s.dj, s.sn, s.hn, s.ws, s.wf⟩
theorem Sim.self (h : Sim K B Wd os vs H) : ∃ S, Same B S ∧ Same S H ∧ Sim K S Wd os vs H := by
  obtain ⟨S, fp, s⟩ := h
  exact ⟨S, s.bs, s.sh, S, fp, s.self⟩
/-- a slot in front -/
theorem Sm.push (s : Sm K B Wd os vs H S fp) (h : Rep K S t v) : Sm K B Wd (some (.sh t) :: os) (some v :: vs) H S (fun i => match i with | 0 => [] | i + 1 => fp i) := by
  refine ⟨s.bs, s.sh, s.wd, by simp [s.len], fun i o e => ?_, fun i => ?_, fun i j a ne ha hb => ?_, fun i a ha => ?_, fun i a ha => ?_, s.ws, fun i a ha => ?_⟩
  · cases i with
    | zero => simp at e; subst e; exact ⟨v, rfl, rfl, h⟩
    | succ i => obtain ⟨w, h1, h2⟩ := s.own i o (by simpa using e); exact ⟨w, by simpa using h1, h2⟩
  · cases i with
    | zero => exact List.nodup_nil
    | succ i => exact s.nd i
  · cases i with
    | zero => cases ha
    | succ i =>
      cases j with
      | zero => cases hb
      | succ j => exact s.dj i j a (by omega) ha hb
  · cases i with
    | zero => cases ha
    | succ i => exact s.sn i a ha
  · cases i with
    | zero => cases ha
    | succ i => exact s.hn i a ha
  · cases i with
    | zero => cases ha
    | succ i => exact s.wf i a ha
theorem Sim.push (h : Sim K B Wd os vs H) (r : ∀ S, Rep K S t v) : Sim K B Wd (some (.sh t) :: os) (some v :: vs) H := by
  obtain ⟨S, fp, s⟩ := h
  exact ⟨S, _, s.push (r S)⟩
/-- the slots by another sight: each new slot is an old one (none twice) or forgotten -/
theorem Sim.via {os' : R} {vs' : L2.St} (h : Sim K B Wd os vs H) (π : Nat → Nat) (inj : ∀ i j, i < os'.length → j < os'.length → π i = π j → i = j) (hl : os'.length = vs'.length)
    (hs : ∀ i o, os'[i]? = some (some o) → os[π i]? = some (some o) ∧ ∀ v, vs[π i]? = some v → vs'[i]? = some v) : Sim K B Wd os' vs' H := by
  obtain ⟨S, fp, s⟩ := h
  have sub : ∀ i a, a ∈ (if i < os'.length then fp (π i) else []) → i < os'.length ∧ a ∈ fp (π i) := fun i a ha => by
    by_cases q : i < os'.length
    · rw [if_pos q] at ha
      exact ⟨q, ha⟩
    · rw [if_neg q] at ha
      cases ha
  refine ⟨S, fun i => if i < os'.length then fp (π i) else [], s.bs, s.sh, s.wd, hl, fun i o e => ?_, fun i => ?_, fun i j a ne ha hb => ?_, fun i a ha => s.sn _ a (sub i a ha).2, fun i a ha => s.hn _ a (sub i a ha).2, s.ws, fun i a ha => s.wf _ a (sub i a ha).2⟩
  · obtain ⟨h1, h2⟩ := hs i o e
    obtain ⟨v, h3, h4⟩ := s.own _ o h1
    have hi : i < os'.length := (List.getElem?_eq_some_iff.mp e).1
    exact ⟨v, h2 _ h3, by simp only [if_pos hi]; exact h4⟩
  · show (if i < os'.length then fp (π i) else []).Nodup
    split
    · exact s.nd _
    · exact List.nodup_nil
  · obtain ⟨a1, a2⟩ := sub i a ha
    obtain ⟨b1, b2⟩ := sub j a hb
    exact s.dj _ _ a (fun z => ne (inj _ _ a1 b1 z)) a2 b2
theorem Sim.drop {o : Option O} {v : Option V} (h : Sim K B Wd (o :: os) (v :: vs) H) : Sim K B Wd os vs H :=
  h.via (fun i => i + 1) (fun _ _ _ _ => by omega) (by have := h.len; simpa using this) fun i o e => ⟨by simpa using e, fun v => by simp⟩
/-- the front slot goes to place i -/
theorem Sim.put {x : Option O} {v : Option V} (h : Sim K B Wd (x :: os) (v :: vs) H) (i : Nat) : Sim K B Wd (os.set i x) (vs.set i v) H := by
  have hl : os.length = vs.length := by have := h.len; simpa using this
  refine h.via (fun j => if j = i then 0 else j + 1) (fun a b _ _ => by split <;> split <;> omega) (by simp [hl]) fun j o e => ?_
  by_cases hj : j = i
  · subst hj
    simp only [if_pos]
    rw [List.getElem?_set] at e
    simp only [if_pos] at e
    split at e
    · rename_i hlt
      refine ⟨by simpa using e, fun w hw => ?_⟩
      rw [List.getElem?_set]
      simp only [if_pos]
      rw [if_pos (by omega)]
      simpa using hw
    · cases e
  · rw [if_neg hj]
    rw [List.getElem?_set_ne (Ne.symm hj)] at e
    exact ⟨by simpa using e, fun w hw => by rw [List.getElem?_set_ne (Ne.symm hj)]; simpa using hw⟩
/-- a slot forgotten -/
theorem Sim.forget (h : Sim K B Wd os vs H) (i : Nat) : Sim K B Wd (os.set i none) vs H := by
  refine h.via (fun j => j) (fun _ _ _ _ h => h) (by simp [h.len]) fun j o e => ?_
  rw [List.getElem?_set] at e
  split at e
  · split at e <;> cases e
  · exact ⟨e, fun _ h => h⟩
/-- place n comes to the front, empty behind -/
theorem Sim.pull (h : Sim K B Wd os vs H) {n : Nat} {o : O} (e : os[n]? = some (some o)) : ∃ v, vs[n]? = some (some v) ∧ Sim K B Wd (some o :: os.set n none) (some v :: vs) H := by
  obtain ⟨S, fp, s⟩ := id h
  obtain ⟨v, h1, _⟩ := s.own n o e
  have hn : n < os.length := (List.getElem?_eq_some_iff.mp e).1
  refine ⟨v, h1, h.via (fun j => if j = 0 then n else if j = n + 1 then os.length else j - 1) (fun a b ha hb => ?_) (by simp [h.len]) fun j o' e' => ?_⟩
  · simp only [List.length_cons, List.length_set] at ha hb
    repeat' split
    all_goals omega
  · cases j with
    | zero =>
      simp at e'
      subst e'
      refine ⟨by simpa using e, fun w hw => ?_⟩
      have hw' : vs[n]? = some w := by simpa using hw
      rw [h1] at hw'
      cases hw'
      rfl
    | succ j =>
      rw [List.getElem?_cons_succ, List.getElem?_set] at e'
      by_cases hj : n = j
      · rw [if_pos hj] at e'
        split at e' <;> cases e'
      · rw [if_neg hj] at e'
        have hj' : ¬ j + 1 = n + 1 := fun z => hj (by omega)
        simp only [Nat.add_one_ne_zero, if_false, if_neg hj', Nat.add_sub_cancel]
        exact ⟨e', fun w hw => by simpa using hw⟩
end
end TL

namespace TL
open PySem PySem.Spec PyProof.Rows L2
namespace Rd
def kvs_LAYOUT : List (Str × T) := [("const", .ktp [.str "word"]), ("name", .ktp [.str "word"]), ("hole", .ktp []), ("use", .ktp [.str "word"]), ("fn", .ktp [.str "word", .str "term"]), ("call", .ktp [.str "term", .str "term"]), ("pair", .ktp [.str "term", .str "term"]), ("left", .ktp [.str "term"]), ("right", .ktp [.str "term"]), ("seal", .ktp [.str "term"]), ("unseal", .ktp [.str "term"]), ("note", .ktp [.str "term", .str "form"]), ("pick", .ktp [.str "kind", .str "term", .str "term", .str "term"])]
def clsN : List Str := ["BadText", "UnknownName", "Twice", "Circle", "BadRow", "NotThere", "TooDeep", "TooBig", "NoMeaning", "NoSolution", "Rough", "TooWide", "InUse", "Stuck", "TooLong"]
def fldN : List Str := ["at", "name", "way", "number", "limit", "word", "kind", "node"]
end Rd
end TL

/-! what the head tells of own exceptions and of tables: the Bool looks -/
namespace TL
open PySem PySem.Spec PyProof.Rows L2
abbrev Fr := PySem.W.Frag
def oexL (K : Fr) (C : Addr) : Bool := match K.lookup C with
  | some ⟨.type t, _, .cls d, sl⟩ => (match d.mro, sl.toList with
    | .ref B :: r, [_, _, _, _, some (.builtin n), _] => decide (t = "type") && (decide (B = C) && (decide (n = "ValueError.__new__") && ((!d.hasDel) && (d.hasDict && PySem.HandSPX.refsVE r))))
    | _, _ => false)
  | _ => false
def oexB (K : Fr) (C : Addr) : Bool := oexL K C && (He.eqO (PySem.W.findIn K (.ref C) "__setattr__") (some (some (.builtin "object.__setattr__"))) &&
  (decide (PySem.W.subIn K (.ref C) (.type "BaseException") = some true) && (decide (PySem.W.typeIn K (.ref C) = some (.type "type")) && PySem.W.keepIn K (.ref C))))
def xqB (K : Fr) (D : Addr) : Bool := (PySem.W.clsIn K D).isSome && (He.eqO (PySem.W.findIn K (.ref D) "__getattribute__") (some (some (.builtin "BaseException.__getattribute__"))) && (He.eqO (PySem.W.findIn K (.ref D) "__getattr__") (some none) &&
  (decide (PySem.W.subIn K (.ref D) (.type "BaseException") = some true) && (PySem.W.hasDictIn K D && (He.eqO (PySem.W.findIn K (.ref D) "__class__") (some (some (.builtin "object.__class__"))) && (He.eqO (PySem.W.specialIn K (.builtin "object.__class__") "__get__") (some (some (.builtin "getset_descriptor.__get__"))) &&
  (decide (PySem.W.takesIn K (.builtin "object.__class__") = some true) && decide (PySem.W.mroIn K D (.type "object") = some true))))))))
def iniB (K : Fr) (c : Str) : Bool := He.eqO (PySem.W.findIn K (.ref (He.ga K c)) "__init__") (some (some (.ref (He.ma K (He.ga K c) "__init__")))) && decide (PySem.W.typeIn K (.ref (He.ma K (He.ga K c) "__init__")) = some (.type "function"))
/-- all of the class c that is asked of it; fs: the fields that own exceptions have -/
def exB (fs : List Str) (K : Fr) (c : Str) : Bool := oexB K (He.ga K c) && (xqB K (He.ga K c) && (xfB K (He.ga K c) && ((fs.all fun f => He.eqO (PySem.W.findIn K (.ref (He.ga K c)) f) (some none)) && iniB K c)))
/-- isinstance of an exception of the class c -/
def kitC (ns : List Str) (K : Fr) (c : Str) : Bool := (ns.all fun n => decide (PySem.W.kitOne K (.ref (He.ga K c)) (.ref (He.ga K n)) = some (decide (c = n)))) && (decide (PySem.W.kitOne K (.ref (He.ga K c)) (.type "ValueError") = some true) && decide (PySem.W.exmOne K (.ref (He.ga K c)) (.ref (He.ga K "Trouble")) = some true))
def flat1 : T → Option V
  | .non => some .non
  | .bl b => some (.bl b)
  | .int i => some (.int i)
  | .str x => some (.str x)
  | _ => none
def flatL : List T → Option (List V)
  | [] => some []
  | t :: ts => match flat1 t, flatL ts with
    | some v, some vs => some (v :: vs)
    | _, _ => none
def entB (K : Fr) (t : T) (u : Value) : Bool := match t with
  | .ktp xs => (match u with
    | .ref a => (match K.lookup a with
      | some ⟨.type c, _, .seq its _, _⟩ => (match flatL xs with
        | some vs => decide (c = "tuple") && (decide (its.size ≤ sizeLine) && He.relAll vs its.toList)
        | none => false)
      | _ => false)
    | _ => false)
  | t => (match flat1 t with
    | some v => He.relB v u
    | none => false)
def tabB (kvs : List (Str × T)) (x : Str) (K : Fr) : Bool := kvs.all fun q => match PySem.W.nsIn K (He.ga K x) q.1 with
  | some (some u) => entB K q.2 u
  | _ => false
end TL

set_option maxHeartbeats 0
namespace Hd
open PySem PySem.Spec PyProof.Rows L2
def top (i : Nat) : Stmt := PySem.Challenge.pw_betweenkinds_k12_redexes_reducts.main.body.getD i (.Pass ⟨0, 0, 0, 0⟩)

abbrev m_BadText___init__ : Stmt := inClass (top 2) 0
def d_m_BadText___init__ : He.DefD := ⟨("BadText", some "__init__"), "__init__", "BadText.__init__", defArgs m_BadText___init__, defBody m_BadText___init__, defScope m_BadText___init__, [], []⟩
abbrev m_UnknownName___init__ : Stmt := inClass (top 3) 0
def d_m_UnknownName___init__ : He.DefD := ⟨("UnknownName", some "__init__"), "__init__", "UnknownName.__init__", defArgs m_UnknownName___init__, defBody m_UnknownName___init__, defScope m_UnknownName___init__, [], []⟩
abbrev m_Twice___init__ : Stmt := inClass (top 4) 0
def d_m_Twice___init__ : He.DefD := ⟨("Twice", some "__init__"), "__init__", "Twice.__init__", defArgs m_Twice___init__, defBody m_Twice___init__, defScope m_Twice___init__, [], []⟩
abbrev m_Circle___init__ : Stmt := inClass (top 5) 0
def d_m_Circle___init__ : He.DefD := ⟨("Circle", some "__init__"), "__init__", "Circle.__init__", defArgs m_Circle___init__, defBody m_Circle___init__, defScope m_Circle___init__, [], []⟩
abbrev m_BadRow___init__ : Stmt := inClass (top 6) 0
def d_m_BadRow___init__ : He.DefD := ⟨("BadRow", some "__init__"), "__init__", "BadRow.__init__", defArgs m_BadRow___init__, defBody m_BadRow___init__, defScope m_BadRow___init__, [], []⟩
abbrev m_NotThere___init__ : Stmt := inClass (top 7) 0
def d_m_NotThere___init__ : He.DefD := ⟨("NotThere", some "__init__"), "__init__", "NotThere.__init__", defArgs m_NotThere___init__, defBody m_NotThere___init__, defScope m_NotThere___init__, [], []⟩
abbrev m_TooDeep___init__ : Stmt := inClass (top 8) 0
def d_m_TooDeep___init__ : He.DefD := ⟨("TooDeep", some "__init__"), "__init__", "TooDeep.__init__", defArgs m_TooDeep___init__, defBody m_TooDeep___init__, defScope m_TooDeep___init__, [], []⟩
abbrev m_TooBig___init__ : Stmt := inClass (top 9) 0
def d_m_TooBig___init__ : He.DefD := ⟨("TooBig", some "__init__"), "__init__", "TooBig.__init__", defArgs m_TooBig___init__, defBody m_TooBig___init__, defScope m_TooBig___init__, [], []⟩
abbrev m_NoMeaning___init__ : Stmt := inClass (top 10) 0
def d_m_NoMeaning___init__ : He.DefD := ⟨("NoMeaning", some "__init__"), "__init__", "NoMeaning.__init__", defArgs m_NoMeaning___init__, defBody m_NoMeaning___init__, defScope m_NoMeaning___init__, [], []⟩
abbrev m_NoSolution___init__ : Stmt := inClass (top 11) 0
def d_m_NoSolution___init__ : He.DefD := ⟨("NoSolution", some "__init__"), "__init__", "NoSolution.__init__", defArgs m_NoSolution___init__, defBody m_NoSolution___init__, defScope m_NoSolution___init__, [], []⟩
abbrev m_Rough___init__ : Stmt := inClass (top 12) 0
def d_m_Rough___init__ : He.DefD := ⟨("Rough", some "__init__"), "__init__", "Rough.__init__", defArgs m_Rough___init__, defBody m_Rough___init__, defScope m_Rough___init__, [], []⟩
abbrev m_TooWide___init__ : Stmt := inClass (top 13) 0
def d_m_TooWide___init__ : He.DefD := ⟨("TooWide", some "__init__"), "__init__", "TooWide.__init__", defArgs m_TooWide___init__, defBody m_TooWide___init__, defScope m_TooWide___init__, [], []⟩
abbrev m_InUse___init__ : Stmt := inClass (top 14) 0
def d_m_InUse___init__ : He.DefD := ⟨("InUse", some "__init__"), "__init__", "InUse.__init__", defArgs m_InUse___init__, defBody m_InUse___init__, defScope m_InUse___init__, [], []⟩
abbrev m_Stuck___init__ : Stmt := inClass (top 15) 0
def d_m_Stuck___init__ : He.DefD := ⟨("Stuck", some "__init__"), "__init__", "Stuck.__init__", defArgs m_Stuck___init__, defBody m_Stuck___init__, defScope m_Stuck___init__, [], []⟩
abbrev m_TooLong___init__ : Stmt := inClass (top 16) 0
def d_m_TooLong___init__ : He.DefD := ⟨("TooLong", some "__init__"), "__init__", "TooLong.__init__", defArgs m_TooLong___init__, defBody m_TooLong___init__, defScope m_TooLong___init__, [], []⟩
abbrev f_parts_of : Stmt := top 20
def d_parts_of : He.DefD := ⟨("parts_of", none), "parts_of", "parts_of", defArgs f_parts_of, defBody f_parts_of, defScope f_parts_of, [], []⟩
abbrev f_rebuilt : Stmt := top 21
def d_rebuilt : He.DefD := ⟨("rebuilt", none), "rebuilt", "rebuilt", defArgs f_rebuilt, defBody f_rebuilt, defScope f_rebuilt, [], []⟩
abbrev f_walk : Stmt := top 22
def d_walk : He.DefD := ⟨("walk", none), "walk", "walk", defArgs f_walk, defBody f_walk, defScope f_walk, [], []⟩
abbrev f_binder_in : Stmt := top 23
def d_binder_in : He.DefD := ⟨("binder_in", none), "binder_in", "binder_in", defArgs f_binder_in, defBody f_binder_in, defScope f_binder_in, [], []⟩
abbrev f_is_free : Stmt := top 24
def d_is_free : He.DefD := ⟨("is_free", none), "is_free", "is_free", defArgs f_is_free, defBody f_is_free, defScope f_is_free, [], []⟩
abbrev f_first_free : Stmt := top 25
def d_first_free : He.DefD := ⟨("first_free", none), "first_free", "first_free", defArgs f_first_free, defBody f_first_free, defScope f_first_free, [], []⟩
abbrev f_measure : Stmt := top 26
def d_measure : He.DefD := ⟨("measure", none), "measure", "measure", defArgs f_measure, defBody f_measure, defScope f_measure, [], []⟩
abbrev f_swap_measure : Stmt := top 27
def d_swap_measure : He.DefD := ⟨("swap_measure", none), "swap_measure", "swap_measure", defArgs f_swap_measure, defBody f_swap_measure, defScope f_swap_measure, [], []⟩
abbrev f_swapped : Stmt := top 28
def d_swapped : He.DefD := ⟨("swapped", none), "swapped", "swapped", defArgs f_swapped, defBody f_swapped, defScope f_swapped, [], []⟩
abbrev f_refuse_great : Stmt := top 29
def d_refuse_great : He.DefD := ⟨("refuse_great", none), "refuse_great", "refuse_great", defArgs f_refuse_great, defBody f_refuse_great, defScope f_refuse_great, [], []⟩
abbrev f_child_slots : Stmt := top 34
def d_child_slots : He.DefD := ⟨("child_slots", none), "child_slots", "child_slots", defArgs f_child_slots, defBody f_child_slots, defScope f_child_slots, [], []⟩
abbrev f_node_rows : Stmt := top 35
def d_node_rows : He.DefD := ⟨("node_rows", none), "node_rows", "node_rows", defArgs f_node_rows, defBody f_node_rows, defScope f_node_rows, [], []⟩
abbrev f_rows_with : Stmt := top 36
def d_rows_with : He.DefD := ⟨("rows_with", none), "rows_with", "rows_with", defArgs f_rows_with, defBody f_rows_with, defScope f_rows_with, [], []⟩
abbrev f_node_count : Stmt := top 37
def d_node_count : He.DefD := ⟨("node_count", none), "node_count", "node_count", defArgs f_node_count, defBody f_node_count, defScope f_node_count, [], []⟩
abbrev f_term_depth : Stmt := top 38
def d_term_depth : He.DefD := ⟨("term_depth", none), "term_depth", "term_depth", defArgs f_term_depth, defBody f_term_depth, defScope f_term_depth, [], []⟩
abbrev f_replaced_depth : Stmt := top 39
def d_replaced_depth : He.DefD := ⟨("replaced_depth", none), "replaced_depth", "replaced_depth", defArgs f_replaced_depth, defBody f_replaced_depth, defScope f_replaced_depth, [], []⟩
abbrev f_with_term : Stmt := top 40
def d_with_term : He.DefD := ⟨("with_term", none), "with_term", "with_term", defArgs f_with_term, defBody f_with_term, defScope f_with_term, [], []⟩
abbrev f_is_redex : Stmt := top 42
def d_is_redex : He.DefD := ⟨("is_redex", none), "is_redex", "is_redex", defArgs f_is_redex, defBody f_is_redex, defScope f_is_redex, [], []⟩
abbrev f_redexes : Stmt := top 43
def d_redexes : He.DefD := ⟨("redexes", none), "redexes", "redexes", defArgs f_redexes, defBody f_redexes, defScope f_redexes, [], []⟩
abbrev f_reduced_root : Stmt := top 44
def d_reduced_root : He.DefD := ⟨("reduced_root", none), "reduced_root", "reduced_root", defArgs f_reduced_root, defBody f_reduced_root, defScope f_reduced_root, [], []⟩
abbrev f_reduced_measure : Stmt := top 45
def d_reduced_measure : He.DefD := ⟨("reduced_measure", none), "reduced_measure", "reduced_measure", defArgs f_reduced_measure, defBody f_reduced_measure, defScope f_reduced_measure, [], []⟩
abbrev f_reduced_at : Stmt := top 46
def d_reduced_at : He.DefD := ⟨("reduced_at", none), "reduced_at", "reduced_at", defArgs f_reduced_at, defBody f_reduced_at, defScope f_reduced_at, [], []⟩
abbrev f__law_mixed : Stmt := top 48
def d__law_mixed : He.DefD := ⟨("_law_mixed", none), "_law_mixed", "_law_mixed", defArgs f__law_mixed, defBody f__law_mixed, defScope f__law_mixed, [], []⟩
abbrev f__law_store : Stmt := top 49
def d__law_store : He.DefD := ⟨("_law_store", none), "_law_store", "_law_store", defArgs f__law_store, defBody f__law_store, defScope f__law_store, [], []⟩
abbrev f__law_advance : Stmt := top 50
def d__law_advance : He.DefD := ⟨("_law_advance", none), "_law_advance", "_law_advance", defArgs f__law_advance, defBody f__law_advance, defScope f__law_advance, [], []⟩
abbrev f__law_take : Stmt := top 51
def d__law_take : He.DefD := ⟨("_law_take", none), "_law_take", "_law_take", defArgs f__law_take, defBody f__law_take, defScope f__law_take, [], []⟩
abbrev f__law_pick : Stmt := top 52
def d__law_pick : He.DefD := ⟨("_law_pick", none), "_law_pick", "_law_pick", defArgs f__law_pick, defBody f__law_pick, defScope f__law_pick, [], []⟩
abbrev f__law_amount : Stmt := top 53
def d__law_amount : He.DefD := ⟨("_law_amount", none), "_law_amount", "_law_amount", defArgs f__law_amount, defBody f__law_amount, defScope f__law_amount, [], []⟩
abbrev f__law_letters : Stmt := top 54
def d__law_letters : He.DefD := ⟨("_law_letters", none), "_law_letters", "_law_letters", defArgs f__law_letters, defBody f__law_letters, defScope f__law_letters, [], []⟩
abbrev f__law_leaf : Stmt := top 55
def d__law_leaf : He.DefD := ⟨("_law_leaf", none), "_law_leaf", "_law_leaf", defArgs f__law_leaf, defBody f__law_leaf, defScope f__law_leaf, [], []⟩
abbrev f__law_form : Stmt := top 56
def d__law_form : He.DefD := ⟨("_law_form", none), "_law_form", "_law_form", defArgs f__law_form, defBody f__law_form, defScope f__law_form, [], []⟩
abbrev f__law_ground : Stmt := top 57
def d__law_ground : He.DefD := ⟨("_law_ground", none), "_law_ground", "_law_ground", defArgs f__law_ground, defBody f__law_ground, defScope f__law_ground, [], []⟩
abbrev f__law_same : Stmt := top 58
def d__law_same : He.DefD := ⟨("_law_same", none), "_law_same", "_law_same", defArgs f__law_same, defBody f__law_same, defScope f__law_same, [], []⟩
abbrev f__law_arity : Stmt := top 59
def d__law_arity : He.DefD := ⟨("_law_arity", none), "_law_arity", "_law_arity", defArgs f__law_arity, defBody f__law_arity, defScope f__law_arity, [], []⟩
abbrev f__law_term : Stmt := top 60
def d__law_term : He.DefD := ⟨("_law_term", none), "_law_term", "_law_term", defArgs f__law_term, defBody f__law_term, defScope f__law_term, [], []⟩
abbrev f__law_end_head : Stmt := top 61
def d__law_end_head : He.DefD := ⟨("_law_end_head", none), "_law_end_head", "_law_end_head", defArgs f__law_end_head, defBody f__law_end_head, defScope f__law_end_head, [], []⟩
abbrev f__law_some_heads : Stmt := top 62
def d__law_some_heads : He.DefD := ⟨("_law_some_heads", none), "_law_some_heads", "_law_some_heads", defArgs f__law_some_heads, defBody f__law_some_heads, defScope f__law_some_heads, [], []⟩
abbrev f__law_tree : Stmt := top 63
def d__law_tree : He.DefD := ⟨("_law_tree", none), "_law_tree", "_law_tree", defArgs f__law_tree, defBody f__law_tree, defScope f__law_tree, [], []⟩
abbrev f__law_binder : Stmt := top 64
def d__law_binder : He.DefD := ⟨("_law_binder", none), "_law_binder", "_law_binder", defArgs f__law_binder, defBody f__law_binder, defScope f__law_binder, [], []⟩
abbrev f__law_chain : Stmt := top 65
def d__law_chain : He.DefD := ⟨("_law_chain", none), "_law_chain", "_law_chain", defArgs f__law_chain, defBody f__law_chain, defScope f__law_chain, [], []⟩
abbrev f__law_closed : Stmt := top 66
def d__law_closed : He.DefD := ⟨("_law_closed", none), "_law_closed", "_law_closed", defArgs f__law_closed, defBody f__law_closed, defScope f__law_closed, [], []⟩
abbrev f__law_reduct : Stmt := top 67
def d__law_reduct : He.DefD := ⟨("_law_reduct", none), "_law_reduct", "_law_reduct", defArgs f__law_reduct, defBody f__law_reduct, defScope f__law_reduct, [], []⟩
abbrev f__law_wrapped : Stmt := top 68
def d__law_wrapped : He.DefD := ⟨("_law_wrapped", none), "_law_wrapped", "_law_wrapped", defArgs f__law_wrapped, defBody f__law_wrapped, defScope f__law_wrapped, [], []⟩
abbrev f__law_bound_heads : Stmt := top 69
def d__law_bound_heads : He.DefD := ⟨("_law_bound_heads", none), "_law_bound_heads", "_law_bound_heads", defArgs f__law_bound_heads, defBody f__law_bound_heads, defScope f__law_bound_heads, [], []⟩
abbrev f__law_told : Stmt := top 70
def d__law_told : He.DefD := ⟨("_law_told", none), "_law_told", "_law_told", defArgs f__law_told, defBody f__law_told, defScope f__law_told, [], []⟩
abbrev f__law_due : Stmt := top 71
def d__law_due : He.DefD := ⟨("_law_due", none), "_law_due", "_law_due", defArgs f__law_due, defBody f__law_due, defScope f__law_due, [], []⟩
abbrev f_law : Stmt := top 72
def d_law : He.DefD := ⟨("law", none), "law", "law", defArgs f_law, defBody f_law, defScope f_law, [], []⟩
def fn : List He.DefD := [d_m_BadText___init__, d_m_UnknownName___init__, d_m_Twice___init__, d_m_Circle___init__, d_m_BadRow___init__, d_m_NotThere___init__, d_m_TooDeep___init__, d_m_TooBig___init__, d_m_NoMeaning___init__, d_m_NoSolution___init__, d_m_Rough___init__, d_m_TooWide___init__, d_m_InUse___init__, d_m_Stuck___init__, d_m_TooLong___init__, d_parts_of, d_rebuilt, d_walk, d_binder_in, d_is_free, d_first_free, d_measure, d_swap_measure, d_swapped, d_refuse_great, d_child_slots, d_node_rows, d_rows_with, d_node_count, d_term_depth, d_replaced_depth, d_with_term, d_is_redex, d_redexes, d_reduced_root, d_reduced_measure, d_reduced_at, d__law_mixed, d__law_store, d__law_advance, d__law_take, d__law_pick, d__law_amount, d__law_letters, d__law_leaf, d__law_form, d__law_ground, d__law_same, d__law_arity, d__law_term, d__law_end_head, d__law_some_heads, d__law_tree, d__law_binder, d__law_chain, d__law_closed, d__law_reduct, d__law_wrapped, d__law_bound_heads, d__law_told, d__law_due, d_law]
def fa : List He.Fa := [.glo "Trouble", .glo "BadText", .glo "UnknownName", .glo "Twice", .glo "Circle", .glo "BadRow", .glo "NotThere", .glo "TooDeep", .glo "TooBig", .glo "NoMeaning", .glo "NoSolution", .glo "Rough", .glo "TooWide", .glo "InUse", .glo "Stuck", .glo "TooLong", .glo "parts_of", .glo "rebuilt", .glo "walk", .glo "binder_in", .glo "is_free", .glo "first_free", .glo "measure", .glo "swap_measure", .glo "swapped", .glo "refuse_great", .glo "child_slots", .glo "node_rows", .glo "rows_with", .glo "node_count", .glo "term_depth", .glo "replaced_depth", .glo "with_term", .glo "is_redex", .glo "redexes", .glo "reduced_root", .glo "reduced_measure", .glo "reduced_at", .glo "_law_mixed", .glo "_law_store", .glo "_law_advance", .glo "_law_take", .glo "_law_pick", .glo "_law_amount", .glo "_law_letters", .glo "_law_leaf", .glo "_law_form", .glo "_law_ground", .glo "_law_same", .glo "_law_arity", .glo "_law_term", .glo "_law_end_head", .glo "_law_some_heads", .glo "_law_tree", .glo "_law_binder", .glo "_law_chain", .glo "_law_closed", .glo "_law_reduct", .glo "_law_wrapped", .glo "_law_bound_heads", .glo "_law_told", .glo "_law_due", .glo "law", .free "ValueError", .free "abs", .free "any", .free "bool", .free "enumerate", .free "int", .free "isinstance", .free "len", .free "list", .free "max", .free "range", .free "str", .free "tuple", .int "MOST_DEEP" 40, .int "MOST_NODES" 300, .int "DEEPEST" 40, .int "LARGEST" 300, .glo "LAYOUT"]
def ts : List He.Tab := [(fun K => He.ga K "LAYOUT", ["const", "name", "hole", "use", "fn", "call", "pair", "left", "right", "seal", "unseal", "note", "pick"])]
def kitL : List Str := ["NotThere", "TooDeep", "TooBig"]
def ex (K : PySem.W.Frag) : Bool := (TL.Rd.clsN.all fun c => TL.exB TL.Rd.fldN K c) && ((kitL.all fun c => TL.kitC TL.Rd.clsN K c) && true && TL.tabB TL.Rd.kvs_LAYOUT "LAYOUT" K)
abbrev R : PySem.W.OpenRow := PySem.W.OpenLaw.row PySem.Challenge.rw_betweenkinds_k12_redexes_reducts
abbrev hk : PySem.W.Hook := He.hookX 6 fa fn ts [] ex
def ob (s : PySem.W.SharedT) : He.AlX := He.obsX 6 fa fn ts [] ex (HandSHeadRun.getT s)
theorem ob_eq (s : PySem.W.SharedT) : ob s = hk.obs s.abs := He.obsX_eq (HandSHeadRun.getT_eq s)
def names0 : List PySem.Str := ["__name__", "Trouble", "BadText", "UnknownName", "Twice", "Circle", "BadRow", "NotThere", "TooDeep", "TooBig", "NoMeaning", "NoSolution", "Rough", "TooWide", "InUse", "Stuck", "TooLong", "MOST_DEEP", "MOST_NODES", "parts_of", "rebuilt", "walk", "binder_in", "is_free", "first_free", "measure", "swap_measure", "swapped", "refuse_great", "DEEPEST"]
def names1 : List PySem.Str := ["LARGEST", "LAYOUT", "child_slots", "node_rows", "rows_with", "node_count", "term_depth", "replaced_depth", "with_term", "is_redex", "redexes", "reduced_root", "reduced_measure", "reduced_at", "_law_mixed", "_law_store", "_law_advance", "_law_take", "_law_pick", "_law_amount", "_law_letters", "_law_leaf", "_law_form", "_law_ground", "_law_same", "_law_arity", "_law_term", "_law_end_head", "_law_some_heads", "_law_tree"]
def names2 : List PySem.Str := ["_law_binder", "_law_chain", "_law_closed", "_law_reduct", "_law_wrapped", "_law_bound_heads", "_law_told", "_law_due"]
def names : List PySem.Str := names0 ++ names1 ++ names2
theorem run_f (w : World) : HandSHeadRun.RunEq R (PySem.W.view R.prog [72]) hk ob 12000 names (w.withFollow "special-get-raises" false) := by
  intro os
  kernel_rfl
theorem run_t (w : World) : HandSHeadRun.RunEq R (PySem.W.view R.prog [72]) hk ob 12000 names (w.withFollow "special-get-raises" true) := by
  intro os
  kernel_rfl
theorem run (w : World) : HandSHeadRun.RunEq R (PySem.W.view R.prog [72]) hk ob 12000 names w :=
  PySem.W.byRow2 "special-get-raises" (P := fun w => HandSHeadRun.RunEq R (PySem.W.view R.prog [72]) hk ob 12000 names w) run_f run_t w
end Hd

namespace TL
open PySem PySem.Spec PyProof.Rows L2
section
variable {K : PySem.W.Frag} {B Wd H S : Hp} {os : R} {vs : L2.St} {fp : Nat → List Addr} {o : O} {v : V} {i : Nat} {t : T}

/-! ### the frame -/
theorem Sim.frame {as : R} {va : L2.St} (hl : as.length = va.length) (h : Sim K B Wd (as ++ os) (va ++ vs) H) :
    ∃ B' Wd', Same B B' ∧ Sim K B' Wd' as va H ∧ ∀ as' va' H', Sim K B' Wd' as' va' H' → Sim K B Wd (as' ++ os) (va' ++ vs) H' := by
  obtain ⟨S, fp, s⟩ := h
  have hlen : os.length = vs.length := by have := s.len; simp at this; omega
  obtain ⟨n, hn⟩ : ∃ n, n = as.length := ⟨_, rfl⟩
  classical
  refine ⟨S, fun a => if ∃ i, n ≤ i ∧ i < n + os.length ∧ a ∈ fp i then H a else Wd a, s.bs, ⟨S, fun i => if i < n then fp i else [], Same.refl _, s.sh, fun a o e => ?_, hl, fun i o e => ?_, fun i => ?_, fun i j a ne ha hb => ?_, fun i a ha => ?_, fun i a ha => ?_, fun a ha => ?_, fun i a ha => ?_⟩, fun as' va' H' h' => ?_⟩
  · try dsimp only at e
    split at e
    · exact e
    · exact s.wd a o e
  · have hi : i < n := by rw [hn]; exact (List.getElem?_eq_some_iff.mp e).1
    obtain ⟨v, h1, h2⟩ := s.own i o (by rw [List.getElem?_append_left (by omega)]; exact e)
    rw [List.getElem?_append_left (by omega)] at h1
    exact ⟨v, h1, by simp only [if_pos hi]; exact h2⟩
  · show (if i < n then fp i else []).Nodup
    split
    · exact s.nd i
    · exact List.nodup_nil
  · try dsimp only at ha hb
    split at ha
    · split at hb
      · exact s.dj i j a ne ha hb
      · cases hb
    · cases ha
  · try dsimp only at ha
    split at ha
    · exact s.sn i a ha
    · cases ha
  · try dsimp only at ha
    split at ha
    · exact s.hn i a ha
    · cases ha
  · try dsimp only at ha
    split at ha
    · rename_i q
      obtain ⟨i, _, _, q⟩ := q
      exact s.sn i a q
    · exact s.ws a ha
  · try dsimp only at ha
    split at ha
    · rename_i hi
      show (if ∃ i, n ≤ i ∧ i < n + os.length ∧ a ∈ fp i then H a else Wd a) = none
      rw [if_neg]
      · exact s.wf i a ha
      · rintro ⟨j, h1, _, h2⟩
        exact s.dj i j a (by omega) ha h2
    · cases ha
  · obtain ⟨S', fp', s'⟩ := h'
    have hw : ∀ a, (∃ i, n ≤ i ∧ i < n + os.length ∧ a ∈ fp i) → H' a = H a ∧ S' a = none ∧ ∀ j, a ∉ fp' j := fun a q => by
      have q2 := q
      obtain ⟨i, h1, h2, h3⟩ := q
      have hH := s.hn i a h3
      have hwa : (if ∃ i, n ≤ i ∧ i < n + os.length ∧ a ∈ fp i then H a else Wd a) = H a := if_pos q2
      refine ⟨?_, ?_, fun j hj => ?_⟩
      · cases e : H a with
        | none => exact absurd e hH
        | some o => exact s'.wd a o (hwa.trans e)
      · exact s'.ws a (by show (if _ then H a else Wd a) ≠ none; rw [hwa]; exact hH)
      · have := s'.wf j a hj
        have h9 : (if ∃ i, n ≤ i ∧ i < n + os.length ∧ a ∈ fp i then H a else Wd a) = none := this
        rw [hwa] at h9
        exact hH h9
    have hwd : ∀ a, Wd a ≠ none → (if ∃ i, n ≤ i ∧ i < n + os.length ∧ a ∈ fp i then H a else Wd a) = Wd a := fun a q => by
      rw [if_neg]
      rintro ⟨i, _, _, h3⟩
      exact q (s.wf i a h3)
    have sub : ∀ i a, a ∈ (if i < as'.length then fp' i else if i < as'.length + os.length then fp (n + (i - as'.length)) else []) →
        (i < as'.length ∧ a ∈ fp' i) ∨ (as'.length ≤ i ∧ i < as'.length + os.length ∧ a ∈ fp (n + (i - as'.length))) := fun i a ha => by
      split at ha
      · rename_i q; exact .inl ⟨q, ha⟩
      · rename_i q
        split at ha
        · rename_i q2; exact .inr ⟨by omega, q2, ha⟩
        · cases ha
    have w0 : ∀ {i a}, as'.length ≤ i → i < as'.length + os.length → a ∈ fp (n + (i - as'.length)) → H' a = H a ∧ S' a = none ∧ ∀ j, a ∉ fp' j := fun h1 h2 h3 => hw _ ⟨_, by omega, by omega, h3⟩
    refine ⟨S', fun i => if i < as'.length then fp' i else if i < as'.length + os.length then fp (n + (i - as'.length)) else [], s.bs.trans s'.bs, s'.sh, fun a o e => ?_, by have := s'.len; simp; omega, fun i o e => ?_, fun i => ?_, fun i j a ne ha hb => ?_, fun i a ha => ?_, fun i a ha => ?_, fun a ha => ?_, fun i a ha => ?_⟩
    · exact s'.wd a o ((hwd a (by rw [e]; intro z; cases z)).trans e)
    · by_cases hi : i < as'.length
      · rw [List.getElem?_append_left hi] at e
        obtain ⟨v, h1, h2⟩ := s'.own i o e
        refine ⟨v, ?_, by simp only [if_pos hi]; exact h2⟩
        rw [List.getElem?_append_left (by have := s'.len; omega)]
        exact h1
      · rw [List.getElem?_append_right (by omega)] at e
        have hk : i - as'.length < os.length := (List.getElem?_eq_some_iff.mp e).1
        obtain ⟨v, h1, h2⟩ := s.own (n + (i - as'.length)) o (by rw [List.getElem?_append_right (by omega)]; rw [show n + (i - as'.length) - as.length = i - as'.length by omega]; exact e)
        rw [List.getElem?_append_right (by omega)] at h1
        rw [show n + (i - as'.length) - va.length = i - as'.length by omega] at h1
        refine ⟨v, ?_, ?_⟩
        · rw [List.getElem?_append_right (by have := s'.len; omega)]
          rw [show i - va'.length = i - as'.length by have := s'.len; omega]
          exact h1
        · simp only [if_neg hi, if_pos (show i < as'.length + os.length by omega)]
          exact h2.mono s'.bs fun a ha => (w0 (by omega) (by omega) ha).1
    · show (if i < as'.length then fp' i else if i < as'.length + os.length then fp (n + (i - as'.length)) else []).Nodup
      split
      · exact s'.nd i
      · split
        · exact s.nd _
        · exact List.nodup_nil
    · rcases sub i a ha with ⟨a1, a2⟩ | ⟨a1, a2, a3⟩
      · rcases sub j a hb with ⟨b1, b2⟩ | ⟨b1, b2, b3⟩
        · exact s'.dj i j a ne a2 b2
        · exact (w0 b1 b2 b3).2.2 i a2
      · rcases sub j a hb with ⟨b1, b2⟩ | ⟨b1, b2, b3⟩
        · exact (w0 a1 a2 a3).2.2 j b2
        · exact s.dj _ _ a (by omega) a3 b3
    · rcases sub i a ha with ⟨a1, a2⟩ | ⟨a1, a2, a3⟩
      · exact s'.sn i a a2
      · exact (w0 a1 a2 a3).2.1
    · rcases sub i a ha with ⟨a1, a2⟩ | ⟨a1, a2, a3⟩
      · exact s'.hn i a a2
      · rw [(w0 a1 a2 a3).1]
        exact s.hn _ a a3
    · exact s'.ws a (by show (if _ then H a else Wd a) ≠ none; rw [hwd a ha]; exact ha)
    · rcases sub i a ha with ⟨a1, a2⟩ | ⟨a1, a2, a3⟩
      · have h9 : (if ∃ i, n ≤ i ∧ i < n + os.length ∧ a ∈ fp i then H a else Wd a) = none := s'.wf i a a2
        split at h9
        · rename_i q
          obtain ⟨j, _, _, q⟩ := q
          exact s.wf j a q
        · exact h9
      · exact s.wf _ a a3

/-! ### a stack of values -/
def Smo (K : PySem.W.Frag) (B Wd : Hp) (os : List O) (vs : List V) (H : Hp) : Prop :=
  ∃ S f, Same B S ∧ Same S H ∧ Same Wd H ∧ Owns K H S os vs f ∧ f.Nodup ∧ (∀ a ∈ f, S a = none ∧ Wd a = none) ∧ ∀ a, Wd a ≠ none → S a = none
theorem owns_of {os : List O} {vs : List V} : ∀ (k : Nat), os.length = vs.length → (∀ i, (fp i).Nodup) → (∀ i j a, i ≠ j → a ∈ fp i → a ∉ fp j) →
    (∀ i o, os[i]? = some o → ∃ v, vs[i]? = some v ∧ Own K H S o v (fp (k + i))) → ∃ f, Owns K H S os vs f ∧ f.Nodup ∧ ∀ a ∈ f, ∃ i, k ≤ i ∧ a ∈ fp i := by
  induction os generalizing vs with
  | nil => intro k hl _ _ _; exact ⟨[], ⟨by cases vs with | nil => rfl | cons => simp at hl, rfl⟩, List.nodup_nil, fun a h => by cases h⟩
  | cons o os ih =>
    intro k hl hn hd ho
    cases vs with
    | nil => simp at hl
    | cons v vs =>
      obtain ⟨f, h1, h2, h3⟩ := ih (vs := vs) (k + 1) (by simpa using hl) hn hd fun i o' e => by
        obtain ⟨v', e1, e2⟩ := ho (i + 1) o' (by simpa using e)
        exact ⟨v', by simpa using e1, by rw [show k + 1 + i = k + (i + 1) by omega]; exact e2⟩
      obtain ⟨v', e1, e2⟩ := ho 0 o (by simp)
      simp at e1
      subst e1
      refine ⟨fp k ++ f, ⟨v, vs, fp k, f, rfl, e2, h1, rfl⟩, ?_, fun a ha => ?_⟩
      · rw [List.nodup_append]
        refine ⟨hn k, h2, fun a ha b hb e => ?_⟩
        subst e
        obtain ⟨i, hi, hm⟩ := h3 a hb
        exact hd k i a (by omega) ha hm
      · rcases List.mem_append.mp ha with ha | ha
        · exact ⟨k, Nat.le_refl _, ha⟩
        · obtain ⟨i, hi, hm⟩ := h3 a ha
          exact ⟨i, by omega, hm⟩
theorem owns_fp {os : List O} : ∀ {vs : List V} {f : List Addr}, Owns K H S os vs f → f.Nodup → ∃ fp : Nat → List Addr, (∀ i, (fp i).Nodup) ∧ (∀ i j a, i ≠ j → a ∈ fp i → a ∉ fp j) ∧ (∀ i a, a ∈ fp i → a ∈ f) ∧
    ∀ i o, os[i]? = some o → ∃ v, vs[i]? = some v ∧ Own K H S o v (fp i) := by
  induction os with
  | nil => intro vs f h hn; exact ⟨fun _ => [], fun _ => List.nodup_nil, fun _ _ _ _ h => (by cases h), fun _ _ h => (by cases h), fun i o e => (by simp at e)⟩
  | cons o os ih =>
    intro vs f h hn
    obtain ⟨v, r, f1, f2, rfl, h2, h3, rfl⟩ := h
    rw [List.nodup_append] at hn
    obtain ⟨n1, n2, n3⟩ := hn
    obtain ⟨fp, a1, a2, a3, a4⟩ := ih h3 n2
    refine ⟨fun i => match i with | 0 => f1 | i + 1 => fp i, fun i => ?_, fun i j a ne ha hb => ?_, fun i a ha => ?_, fun i o' e => ?_⟩
    · cases i with
      | zero => exact n1
      | succ i => exact a1 i
    · cases i with
      | zero =>
        cases j with
        | zero => exact ne rfl
        | succ j => exact n3 a ha a (a3 j a hb) rfl
      | succ i =>
        cases j with
        | zero => exact n3 a hb a (a3 i a ha) rfl
        | succ j => exact a2 i j a (by omega) ha hb
    · cases i with
      | zero => exact List.mem_append_left _ ha
      | succ i => exact List.mem_append_right _ (a3 i a ha)
    · cases i with
      | zero => simp at e; subst e; exact ⟨v, rfl, h2⟩
      | succ i => obtain ⟨w, e1, e2⟩ := a4 i o' (by simpa using e); exact ⟨w, by simpa using e1, e2⟩
theorem Sim.smo {os : List O} {vs : List V} (h : Sim K B Wd (os.map some) (vs.map some) H) : Smo K B Wd os vs H := by
  obtain ⟨S, fp, s⟩ := h
  obtain ⟨f, h1, h2, h3⟩ := owns_of (K := K) (H := H) (S := S) (os := os) (vs := vs) 0 (by have := s.len; simpa using this) s.nd s.dj fun i o e => by
    obtain ⟨v, e1, e2⟩ := s.own i o (by rw [List.getElem?_map, e]; rfl)
    rw [List.getElem?_map] at e1
    cases q : vs[i]? with
    | none => rw [q] at e1; cases e1
    | some w => rw [q] at e1; cases e1; exact ⟨_, rfl, by rw [Nat.zero_add]; exact e2⟩
  exact ⟨S, f, s.bs, s.sh, s.wd, h1, h2, fun a ha => let ⟨i, _, hm⟩ := h3 a ha; ⟨s.sn i a hm, s.wf i a hm⟩, s.ws⟩
theorem Smo.sim {os : List O} {vs : List V} (h : Smo K B Wd os vs H) : Sim K B Wd (os.map some) (vs.map some) H := by
  obtain ⟨S, f, h1, h2, h3, h4, h5, h6, h7⟩ := h
  obtain ⟨fp, a1, a2, a3, a4⟩ := owns_fp h4 h5
  refine ⟨S, fp, h1, h2, h3, by simp [(Owns.len h4).1], fun i o e => ?_, a1, a2, fun i a ha => (h6 a (a3 i a ha)).1, fun i a ha => h4.there a (a3 i a ha), h7, fun i a ha => (h6 a (a3 i a ha)).2⟩
  rw [List.getElem?_map] at e
  cases q : os[i]? with
  | none => rw [q] at e; cases e
  | some w =>
    rw [q] at e
    cases e
    obtain ⟨v, e1, e2⟩ := a4 i _ q
    exact ⟨v, by rw [List.getElem?_map, e1]; rfl, e2⟩
/-- the rule for a change of the front: by stacks of values -/
theorem Sim.front {as : List O} {va : List V} (hl : as.length = va.length) (h : Sim K B Wd (as.map some ++ os) (va.map some ++ vs) H) :
    ∃ B' Wd', Same B B' ∧ Smo K B' Wd' as va H ∧ ∀ as' va' H', Smo K B' Wd' as' va' H' → Sim K B Wd (as'.map some ++ os) (va'.map some ++ vs) H' := by
  obtain ⟨B', Wd', h0, h1, h2⟩ := Sim.frame (as := as.map some) (va := va.map some) (by simpa using hl) h
  exact ⟨B', Wd', h0, h1.smo, fun as' va' H' s => h2 _ _ _ s.sim⟩
theorem Smo.self {os : List O} {vs : List V} (h : Smo K B Wd os vs H) : ∃ S, Same B S ∧ Same S H ∧ Smo K S Wd os vs H := by
  obtain ⟨S, f, h1, h2, h3, h4, h5, h6, h7⟩ := h
  exact ⟨S, h1, h2, S, f, Same.refl _, h2, h3, h4, h5, h6, h7⟩
theorem Smo.len {os : List O} {vs : List V} (h : Smo K B Wd os vs H) : os.length = vs.length := by
  obtain ⟨S, f, h1, h2, h3, h4, h5, h6, h7⟩ := h
  exact (Owns.len h4).1

/-! ### what stacks do -/
/-- shared all -/
theorem Smo.frz {os : List O} {vs : List V} (h : Smo K B Wd os vs H) : Smo K B Wd ((O.ts os).map .sh) vs H := by
  obtain ⟨S, f, h1, h2, h3, h4, h5, h6, h7⟩ := h
  have e : Same S (fun a => if a ∈ f then H a else S a) := fun a o q => by
    show (if a ∈ f then H a else S a) = some o
    split
    · exact h2 a o q
    · exact q
  refine ⟨fun a => if a ∈ f then H a else S a, [], h1.trans e, fun a o q => ?_, h3, Owns.sh (h4.frz e fun a ha => if_pos ha), List.nodup_nil, fun a ha => (by cases ha), fun a ha => ?_⟩
  · have q' : (if a ∈ f then H a else S a) = some o := q
    split at q'
    · exact q'
    · exact h2 a o q'
  · show (if a ∈ f then H a else S a) = none
    split
    · rename_i q
      exact absurd (h6 a q).2 ha
    · exact h7 a ha
theorem Smo.reps {ts : List T} {vs : List V} (h : Smo K B Wd (ts.map .sh) vs H) : ∃ S, Same B S ∧ Same S H ∧ Reps K S ts vs := by
  obtain ⟨S, f, h1, h2, h3, h4, h5, h6, h7⟩ := h
  have := h4.frz (S' := fun a => if a ∈ f then H a else S a) (fun a o q => by
    show (if a ∈ f then H a else S a) = some o
    split
    · exact h2 a o q
    · exact q) fun a ha => if_pos ha
  rw [O.ts_sh] at this
  refine ⟨_, fun a o q => ?_, fun a o q => ?_, this⟩
  · show (if a ∈ f then H a else S a) = some o
    split
    · exact h2 a o (h1 a o q)
    · exact h1 a o q
  · have q' : (if a ∈ f then H a else S a) = some o := q
    split at q'
    · exact q'
    · exact h2 a o q'
/-- a new object for the whole stack -/
theorem Smo.new {os : List O} {vs : List V} {p : Addr} {ho : HO} {o : O} (h : Smo K B Wd os vs H) (hp : H p = none)
    (ow : ∀ H' S f, Owns K H' S os vs f → H' p = some ho → Own K H' S o (.ref p) (p :: f)) : Smo K B Wd [o] [.ref p] (upd H p ho) := by
  obtain ⟨S, f, h1, h2, h3, h4, h5, h6, h7⟩ := h
  have e : Same H (upd H p ho) := fun a u q => by rw [upd_ne (ne_of_none q hp)]; exact q
  have hf : p ∉ f := fun z => h4.there p z hp
  have sp : S p = none := h2.free hp
  have wp : Wd p = none := h3.free hp
  refine ⟨S, p :: f, h1, h2.trans e, h3.trans e, Owns.one (ow _ _ f (h4.mono (Same.refl _) fun a ha => upd_ne fun z => hf (z ▸ ha)) upd_same), List.nodup_cons.mpr ⟨hf, h5⟩, fun a ha => ?_, h7⟩
  rcases List.mem_cons.mp ha with rfl | ha
  · exact ⟨sp, wp⟩
  · exact h6 a ha
theorem Smo.newL {os : List O} {vs : List V} {p : Addr} (h : Smo K B Wd os vs H) (hp : H p = none) : Smo K B Wd [.lst os] [.ref p] (upd H p (.lst vs)) :=
  h.new hp fun H' S f ow e => ⟨p, vs, f, rfl, e, ow, rfl⟩
/-- a new shared object -/
theorem Smo.newS {ts : List T} {vs : List V} {p : Addr} {ho : HO} {t : T} (h : Smo K B Wd (ts.map .sh) vs H) (hp : H p = none)
    (ow : ∀ S, Reps K S ts vs → S p = some ho → Rep K S t (.ref p)) : Smo K B Wd [.sh t] [.ref p] (upd H p ho) := by
  obtain ⟨S, f, h1, h2, h3, h4, h5, h6, h7⟩ := h
  have e : Same H (upd H p ho) := fun a u q => by rw [upd_ne (ne_of_none q hp)]; exact q
  have sp : S p = none := h2.free hp
  have wp : Wd p = none := h3.free hp
  have eS : Same S (fun a => if a ∈ f then H a else S a) := fun a o q => by
    show (if a ∈ f then H a else S a) = some o
    split
    · exact h2 a o q
    · exact q
  have r := h4.frz eS fun a ha => if_pos ha
  rw [O.ts_sh] at r
  have hf : p ∉ f := fun z => h4.there p z hp
  have e2 : Same (fun a => if a ∈ f then H a else S a) (upd (fun a => if a ∈ f then H a else S a) p ho) := fun a u q => by
    rw [upd_ne]
    · exact q
    · intro z
      rw [z] at q
      try dsimp only at q
      rw [if_neg hf, sp] at q
      cases q
  refine ⟨upd (fun a => if a ∈ f then H a else S a) p ho, [], (h1.trans eS).trans e2, fun a u q => ?_, h3.trans e, Owns.one ⟨rfl, ow _ (r.mono e2) upd_same⟩, List.nodup_nil, fun a ha => (by cases ha), fun a ha => ?_⟩
  · by_cases z : a = p
    · subst z
      rw [upd_same] at q ⊢
      exact q
    · rw [upd_ne z] at q ⊢
      try dsimp only at q
      split at q
      · exact q
      · exact h2 a u q
  · have z : a ≠ p := fun z => ha (z ▸ wp)
    rw [upd_ne z]
    try dsimp only
    split
    · rename_i q
      exact absurd (h6 a q).2 ha
    · exact h7 a ha
theorem Smo.newT {os : List O} {vs : List V} {p : Addr} (h : Smo K B Wd os vs H) (hp : H p = none) : Smo K B Wd [.sh (.tup (O.ts os))] [.ref p] (upd H p (.tup vs)) :=
  h.frz.newS hp fun S r e => ⟨p, vs, rfl, e, r⟩
/-- an owned list is changed: its items and others' -/
theorem Smo.setL {os : List O} {xs : List O} {a : Addr} {va : List V} (h : Smo K B Wd (.lst os :: xs) (.ref a :: va) H) : ∃ vs, H a = some (.lst vs) ∧ os.length = vs.length ∧
    ∀ (os' xs' : List O) (vs' va' : List V), (∀ H' S f g, Same B S → Owns K H' S os vs f → Owns K H' S xs va g → ∃ f' g' r, Owns K H' S os' vs' f' ∧ Owns K H' S xs' va' g' ∧ (f ++ g).Perm (f' ++ g' ++ r)) →
      Smo K B Wd (.lst os' :: xs') (.ref a :: va') (upd H a (.lst vs')) := by
  obtain ⟨S, f, h1, h2, h3, ⟨v, r, f1, f2, e1, ⟨a', vs, fq, e2, e3, e4, e5⟩, e6, e7⟩, h5, h6, h7⟩ := h
  cases e1
  cases e2
  refine ⟨vs, e3, (Owns.len e4).1, fun os' xs' vs' va' hh => ?_⟩
  subst e5 e7
  have hf : a ∉ fq ++ f2 := (List.nodup_cons.mp (by simpa using h5)).1
  have sa := h6 a (by simp)
  have keep : ∀ b ∈ fq ++ f2, upd H a (.lst vs') b = H b := fun b hb => upd_ne fun z => hf (z ▸ hb)
  obtain ⟨f', g', rr, o1, o2, pm⟩ := hh (upd H a (.lst vs')) S fq f2 h1 (e4.mono (Same.refl _) fun b hb => keep b (List.mem_append_left _ hb)) (e6.mono (Same.refl _) fun b hb => keep b (List.mem_append_right _ hb))
  have nd : (a :: (f' ++ g')).Nodup := by
    rw [List.nodup_cons]
    have h5' : (a :: (fq ++ f2)).Nodup := by simpa using h5
    exact ⟨fun z => hf (pm.mem_iff.mpr (List.mem_append_left _ z)), (List.nodup_append.mp (pm.nodup_iff.mp (List.nodup_cons.mp h5').2)).1⟩
  refine ⟨S, a :: (f' ++ g'), h1, fun b u q => ?_, fun b u q => ?_, ⟨_, _, a :: f', g', rfl, ⟨a, vs', f', rfl, upd_same, o1, rfl⟩, o2, by simp⟩, nd, fun b hb => ?_, h7⟩
  · rw [upd_ne fun z => by rw [z, sa.1] at q; cases q]
    exact h2 b u q
  · rw [upd_ne fun z => by rw [z, sa.2] at q; cases q]
    exact h3 b u q
  · rcases List.mem_cons.mp hb with rfl | hb
    · exact sa
    · exact h6 b (by simp; exact .inr (by simpa using pm.mem_iff.mpr (List.mem_append_left _ hb)))
end
end TL

namespace TL
open PySem PySem.Spec PyProof.Rows L2

/-! ### readings over trees -/
/-- what is wanted of an exception: its class, its fields, the slots where it comes up -/
abbrev ZC := Addr → List Str → List T → R → Prop
abbrev XE := R → (O → R → Prop) → ZC → Prop
abbrev XT := R → (Bool → R → Prop) → ZC → Prop
abbrev XA := R → (List O → R → Prop) → ZC → Prop
structure ED where
  nx : R → Prop
  rt : O → R → Prop
  bk : R → Prop := fun _ => False
  ct : R → Prop := fun _ => False
  ex : ZC := fun _ _ _ _ => False
abbrev XS := ED → R → Prop

/-- an exception's end at the slots ρ' -/
def ExAt (K : PySem.W.Frag) (B Wd : Hp) (fr : R) (frv : L2.St) (W : L2.WX) (Z : ZC) (σ : L2.St) : Prop :=
  ∀ C fs ts ρ' d H', Z C fs ts ρ' → Sim K B Wd (some (.sh (.xd fs ts)) :: (fr ++ ρ')) (some (.ref d) :: (frv ++ σ)) H' → W (.ref C) (some d) σ H'

def lE (K : PySem.W.Frag) (W : L2.WX) (x : XE) : TE := fun σ H Q => ∃ B Wd fr frv ρ K0 Z0, fr.length = frv.length ∧ Sim K B Wd (fr ++ ρ) (frv ++ σ) H ∧ x ρ K0 Z0 ∧
  (∀ o ρ' v H', K0 o ρ' → Sim K B Wd (some o :: (fr ++ ρ')) (some v :: (frv ++ σ)) H' → Q v H') ∧ ExAt K B Wd fr frv W Z0 σ
def lT (K : PySem.W.Frag) (W : L2.WX) (x : XT) : TT := fun σ H Q => ∃ B Wd fr frv ρ K0 Z0, fr.length = frv.length ∧ Sim K B Wd (fr ++ ρ) (frv ++ σ) H ∧ x ρ K0 Z0 ∧
  (∀ b ρ' H', K0 b ρ' → Sim K B Wd (fr ++ ρ') (frv ++ σ) H' → Q b H') ∧ ExAt K B Wd fr frv W Z0 σ
def lA (K : PySem.W.Frag) (W : L2.WX) (x : XA) : TA := fun σ H Q => ∃ B Wd fr frv ρ K0 Z0, fr.length = frv.length ∧ Sim K B Wd (fr ++ ρ) (frv ++ σ) H ∧ x ρ K0 Z0 ∧
  (∀ os ρ' vs H', os.length = vs.length → K0 os ρ' → Sim K B Wd (os.map some ++ (fr ++ ρ')) (vs.map some ++ (frv ++ σ)) H' → Q vs H') ∧ ExAt K B Wd fr frv W Z0 σ
def lS (K : PySem.W.Frag) (W : L2.WX) (x : XS) : TS := fun D σ H => ∃ B Wd fr frv ρ D0, fr.length = frv.length ∧ Sim K B Wd (fr ++ ρ) (frv ++ σ) H ∧ x D0 ρ ∧
  (∀ ρ' σ' H', D0.nx ρ' → Sim K B Wd (fr ++ ρ') (frv ++ σ') H' → D.nx σ' H') ∧ (∀ ρ' σ' H', D0.bk ρ' → Sim K B Wd (fr ++ ρ') (frv ++ σ') H' → D.bk σ' H') ∧
  (∀ ρ' σ' H', D0.ct ρ' → Sim K B Wd (fr ++ ρ') (frv ++ σ') H' → D.ct σ' H') ∧ (∀ o ρ' v σ' H', D0.rt o ρ' → Sim K B Wd (some o :: (fr ++ ρ')) (some v :: (frv ++ σ')) H' → D.rt v H') ∧
  (∀ σ', ExAt K B Wd fr frv W D0.ex σ')
def PEt (X : Cx) (W : L2.WX) (e : Expr) (x : XE) : Prop := PE X e (lE X.K W x)
def PTt (X : Cx) (W : L2.WX) (e : Expr) (x : XT) : Prop := PT X e (lT X.K W x)
def PWt (X : Cx) (W : L2.WX) (e : Expr) (x : XT) : Prop := PW X e (lT X.K W x)
def PAt (X : Cx) (W : L2.WX) (es : List Expr) (x : XA) : Prop := PA X es (lA X.K W x)
def PSt (X : Cx) (W : L2.WX) (s : Stmt) (x : XS) : Prop := PS X s (lS X.K W x)
def PSst (X : Cx) (W : L2.WX) (s : List Stmt) (x : XS) : Prop := PSs X s (lS X.K W x)

theorem PE.imp {X : Cx} {e : Expr} {t t' : TE} (h : PE X e t) (i : ∀ σ H Q, t' σ H Q → t σ H Q) : PE X e t' := ⟨fun pins s σ H Q I q => h.run pins s σ H Q I (i σ H Q q)⟩
theorem PT.imp {X : Cx} {e : Expr} {t t' : TT} (h : PT X e t) (i : ∀ σ H Q, t' σ H Q → t σ H Q) : PT X e t' := ⟨fun pins s σ H Q I q => h.run pins s σ H Q I (i σ H Q q)⟩
theorem PW.imp {X : Cx} {e : Expr} {t t' : TT} (h : PW X e t) (i : ∀ σ H Q, t' σ H Q → t σ H Q) : PW X e t' := ⟨fun wh pins s σ H Q I q => h.run wh pins s σ H Q I (i σ H Q q)⟩
theorem PA.imp {X : Cx} {es : List Expr} {t t' : TA} (h : PA X es t) (i : ∀ σ H Q, t' σ H Q → t σ H Q) : PA X es t' := ⟨fun pos pins s σ H Q I q => h.run pos pins s σ H Q I (i σ H Q q)⟩
theorem PS.imp {X : Cx} {e : Stmt} {t t' : TS} (h : PS X e t) (i : ∀ D σ H, t' D σ H → t D σ H) : PS X e t' := ⟨fun pins s σ H D I q => h.run pins s σ H D I (i D σ H q)⟩
theorem PSs.imp {X : Cx} {e : List Stmt} {t t' : TS} (h : PSs X e t) (i : ∀ D σ H, t' D σ H → t D σ H) : PSs X e t' := ⟨fun pins s σ H D I q => h.run pins s σ H D I (i D σ H q)⟩
theorem PG.imp {X : Cx} {e : Expr} {t t' : TG} (h : PG X e t) (i : ∀ v σ H Q, t' v σ H Q → t v σ H Q) : PG X e t' := ⟨fun pins s σ H v u Q I r q => h.run pins s σ H v u Q I r (i v σ H Q q)⟩

/-! ### what is read: everything shared for a while -/
def frzA (ρ : R) : R := ρ.map (Option.map fun o => .sh o.t)
theorem frzA_len (ρ : R) : (frzA ρ).length = ρ.length := List.length_map _
section
variable {K : PySem.W.Frag} {B Wd H S : Hp} {os : R} {vs : L2.St} {fp : Nat → List Addr} {o : O} {v : V} {i : Nat} {t : T}
/-- everything shared for a while, then the old slots again -/
theorem Sim.bor (h : Sim K B Wd os vs H) : ∃ S', Same B S' ∧ Same S' H ∧ Sim K S' Wd (frzA os) vs H ∧ ∀ os' vs' H', Sim K S' Wd os' vs' H' → Sim K B Wd os vs H' := by
  obtain ⟨S, fp, s⟩ := h
  classical
  have e : Same S (fun a => if ∃ i, a ∈ fp i then H a else S a) := fun a o q => by
    show (if _ then H a else S a) = some o
    split
    · exact s.sh a o q
    · exact q
  have e2 : Same (fun a => if ∃ i, a ∈ fp i then H a else S a) H := fun a o q => by
    have q' : (if ∃ i, a ∈ fp i then H a else S a) = some o := q
    split at q'
    · exact q'
    · exact s.sh a o q'
  refine ⟨fun a => if ∃ i, a ∈ fp i then H a else S a, s.bs.trans e, e2, ⟨_, fun _ => [], Same.refl _, e2, s.wd, (by rw [frzA_len]; exact s.len), fun i o q => ?_, fun _ => List.nodup_nil, fun _ _ _ _ q => (by cases q), fun _ _ q => (by cases q), fun _ _ q => (by cases q), fun a q => ?_, fun _ _ q => (by cases q)⟩, fun os' vs' H' h' => ?_⟩
  · unfold frzA at q
    rw [List.getElem?_map] at q
    cases w : os[i]? with
    | none => rw [w] at q; cases q
    | some u =>
      rw [w] at q
      cases u with
      | none => cases q
      | some o' =>
        cases q
        obtain ⟨v, h1, h2⟩ := s.own i o' w
        exact ⟨v, h1, rfl, h2.frz e fun a ha => if_pos ⟨i, ha⟩⟩
  · rw [if_neg]
    · exact s.ws a q
    · rintro ⟨i, hi⟩
      exact q (s.wf i a hi)
  · obtain ⟨S2, fp2, s2⟩ := h'
    have hS := s2.bs.trans s2.sh
    have agree : ∀ i a, a ∈ fp i → H' a = H a := fun i a ha => by
      cases q : H a with
      | none => exact absurd q (s.hn i a ha)
      | some u => exact hS a u ((if_pos ⟨i, ha⟩).trans q)
    refine ⟨S, fp, s.bs, e.trans hS, s2.wd, s.len, fun i o q => ?_, s.nd, s.dj, s.sn, fun i a ha => (by rw [agree i a ha]; exact s.hn i a ha), s.ws, s.wf⟩
    obtain ⟨v, h1, h2⟩ := s.own i o q
    exact ⟨v, h1, h2.mono (Same.refl _) (agree i)⟩
/-- a flat value needs no heap -/
def T.flat : T → Bool
  | .non => true
  | .bl _ => true
  | .int _ => true
  | .str _ => true
  | .adr _ => true
  | _ => false
theorem Rep.flat (f : T.flat t = true) (h : Rep K S t v) : ∀ S', Rep K S' t v := by
  cases t <;> first
    | exact fun _ => h
    | cases f
theorem Sim.app_len {fr ρ : R} {frv σ : L2.St} (hl : fr.length = frv.length) (h : Sim K B Wd (fr ++ ρ) (frv ++ σ) H) : ρ.length = σ.length := by
  have := h.len
  simp at this
  omega
theorem frzA_app (a b : R) : frzA (a ++ b) = frzA a ++ frzA b := List.map_append
theorem frzA_getElem (ρ : R) (i : Nat) : (frzA ρ)[i]? = ρ[i]?.map (Option.map fun o => .sh o.t) := List.getElem?_map
/-- the front slot, shared -/
theorem Sim.rep (h : Sim K B Wd (some o :: os) (some v :: vs) H) : ∃ S, Same B S ∧ Same S H ∧ Rep K S o.t v := by
  obtain ⟨S, h1, h2, h3, _⟩ := h.bor
  obtain ⟨S', fp', s'⟩ := h3
  obtain ⟨v', e1, e2⟩ := s'.own 0 (.sh o.t) rfl
  cases e1
  exact ⟨S', h1.trans s'.bs, s'.sh, e2.2⟩
end
end TL

namespace TL
open PySem PySem.Spec PyProof.Rows L2
section
variable {K : PySem.W.Frag} {B Wd H S : Hp} {os fr : R} {vs frv σ : L2.St} {fp : Nat → List Addr} {o : O} {v : V} {i : Nat} {t : T} {W : L2.WX} {Z : ZC}
theorem Sim.drop2 {a b : Option O} {va vb : Option V} (h : Sim K B Wd (a :: b :: os) (va :: vb :: vs) H) : Sim K B Wd (a :: os) (va :: vs) H :=
  h.via (fun i => if i = 0 then 0 else i + 1) (fun i j _ _ => by split <;> split <;> omega) (by have := h.len; simpa using this) fun i o e => by
    cases i with
    | zero => exact ⟨by simpa using e, fun v q => by simpa using q⟩
    | succ i => exact ⟨by simpa using e, fun v q => by simpa using q⟩
theorem ExAt.push {x : Option O} {y : Option V} (h : ExAt K B Wd fr frv W Z σ) : ExAt K B Wd (x :: fr) (y :: frv) W Z σ :=
  fun C fs ts ρ' d H' hz s => h C fs ts ρ' d H' hz s.drop2
theorem set_id {α : Type} : ∀ {l : List α} {n : Nat} {x : α}, l[n]? = some x → l.set n x = l
  | [], _, _, h => by simp at h
  | a :: l, 0, x, h => by simp at h; simp [h]
  | a :: l, n + 1, x, h => by simp at h; simp [set_id h]
/-- a slot is read and shared -/
theorem Sim.read (h : Sim K B Wd os vs H) {n : Nat} (e : os[n]? = some (some o)) : ∃ v, vs[n]? = some (some v) ∧ Sim K B Wd (some (.sh o.t) :: os.set n (some (.sh o.t))) (some v :: vs) H := by
  obtain ⟨v, hv, h1⟩ := h.pull e
  obtain ⟨B', Wd', _, h2, back⟩ := Sim.front (as := [o]) (va := [v]) rfl h1
  have h3 := h2.frz
  obtain ⟨S, f, a1, a2, a3, a4, a5, a6, a7⟩ := h3
  obtain ⟨w, e1, ow⟩ := Owns.of_one a4
  cases e1
  have rp : Rep K S o.t v := ow.2
  have h4 : Smo K B' Wd' [.sh o.t, .sh o.t] [v, v] H := ⟨S, [], a1, a2, a3, Owns.sh (ts := [o.t, o.t]) ⟨v, [v], rfl, rp, v, [], rfl, rp, rfl⟩, List.nodup_nil, fun _ q => (by cases q), a7⟩
  have h5 := back _ _ _ h4
  have h6 := Sim.put (K := K) (B := B) (Wd := Wd) (os := some (.sh o.t) :: os.set n none) (vs := some v :: vs) (x := some (.sh o.t)) (v := some v) (by simpa using h5) (n + 1)
  refine ⟨v, hv, ?_⟩
  have e2 : (some (O.sh o.t) :: os.set n none).set (n + 1) (some (.sh o.t)) = some (.sh o.t) :: os.set n (some (.sh o.t)) := by simp
  have e3 : (some v :: vs).set (n + 1) (some v) = some v :: vs := by rw [List.set_cons_succ, set_id hv]
  rw [e2, e3] at h6
  exact h6
end

/-! ### names and constants -/
def xName (i : Nat) : XE := fun ρ K _ => match ρ[i]? with
  | some (some (.sh t)) => K (.sh t) ρ
  | some (some o) => K (.sh o.t) (ρ.set i (some (.sh o.t)))
  | _ => False
def xMov (i : Nat) : XE := fun ρ K _ => match ρ[i]? with
  | some (some o) => K o (ρ.set i none)
  | _ => False
def xC (t : T) : XE := fun ρ K _ => K (.sh t) ρ
section
variable {X : Cx} {W : L2.WX} {a b e : Expr} {xa xb x : XE} {pos : Pos}
theorem get_app {α : Type} {fr ρ : List α} (i : Nat) : (fr ++ ρ)[fr.length + i]? = ρ[i]? := by
  rw [List.getElem?_append_right (by omega)]
  congr 1
  omega
theorem set_app {α : Type} {fr ρ : List α} (i : Nat) (y : α) : (fr ++ ρ).set (fr.length + i) y = fr ++ ρ.set i y := by
  rw [List.set_append_right _ _ (by omega)]
  congr 2
  omega
theorem pe_name (i : Nat) {y : Str} {p : Pos} (hN : X.N[i]? = some y := by rfl) (hv : Vis X.env.scope y := by first | exact Or.inl rfl | exact Or.inr (Or.inl rfl) | exact Or.inr (Or.inr rfl)) (hd : (y == ("__debug__" : Str)) = false := by decide)
    (hcd : (y == ("__classdict__" : Str)) = false := by decide) : PEt X W (.Name y p) (xName i) := PE.imp (pe_var (i := i) hN hv hd hcd) fun σ H Q ⟨B, Wd, fr, frv, ρ, K0, Z0, hl, s, hx, hK, hZ⟩ => by
  unfold xName at hx
  have rd : ∀ o, ρ[i]? = some (some o) → (∀ v, Sim X.K B Wd (some (.sh o.t) :: (fr ++ ρ.set i (some (.sh o.t)))) (some v :: (frv ++ σ)) H → Q v H) → tVar i σ H Q := fun o e q => by
    obtain ⟨v, h1, h2⟩ := s.read (n := fr.length + i) (o := o) (by rw [get_app]; exact e)
    rw [set_app] at h2
    rw [hl, get_app] at h1
    exact ⟨v, h1, q v h2⟩
  cases e : ρ[i]? with
  | none => rw [e] at hx; exact hx.elim
  | some r =>
    rw [e] at hx
    cases r with
    | none => exact hx.elim
    | some o =>
      cases o with
      | sh t => exact rd _ e fun v h => hK _ _ _ _ hx (by simp only [O.t] at h; rw [set_id e] at h; exact h)
      | _ => exact rd _ e fun v h => hK _ _ _ _ hx h
theorem pe_mov (i : Nat) {y : Str} {p : Pos} (hN : X.N[i]? = some y := by rfl) (hv : Vis X.env.scope y := by first | exact Or.inl rfl | exact Or.inr (Or.inl rfl) | exact Or.inr (Or.inr rfl)) (hd : (y == ("__debug__" : Str)) = false := by decide)
    (hcd : (y == ("__classdict__" : Str)) = false := by decide) : PEt X W (.Name y p) (xMov i) := PE.imp (pe_var (i := i) hN hv hd hcd) fun σ H Q ⟨B, Wd, fr, frv, ρ, K0, Z0, hl, s, hx, hK, hZ⟩ => by
  unfold xMov at hx
  cases e : ρ[i]? with
  | none => rw [e] at hx; exact hx.elim
  | some r =>
    rw [e] at hx
    cases r with
    | none => exact hx.elim
    | some o =>
      obtain ⟨v, h1, h2⟩ := s.pull (n := fr.length + i) (o := o) (by rw [get_app]; exact e)
      rw [set_app] at h2
      rw [hl, get_app] at h1
      exact ⟨v, h1, hK _ _ _ _ hx h2⟩
theorem pe_con {v : V} {t : T} (h : PE X e (tC v)) (r : ∀ S, Rep X.K S t v) : PEt X W e (xC t) := PE.imp h fun σ H Q ⟨B, Wd, fr, frv, ρ, K0, Z0, hl, s, hx, hK, hZ⟩ => hK _ _ _ _ hx (s.push r)
theorem pe_int {i j} : PEt X W (.Constant (.int i) j pos) (xC (.int i)) := pe_con L2.pe_int fun _ => rfl
theorem pe_bl {k j} : PEt X W (.Constant (.bool k) j pos) (xC (.bl k)) := pe_con L2.pe_bl fun _ => rfl
theorem pe_non {j} : PEt X W (.Constant .none j pos) (xC .non) := pe_con L2.pe_non fun _ => rfl
theorem pe_str {y j} : PEt X W (.Constant (.str y) j pos) (xC (.str y)) := pe_con L2.pe_str fun _ => rfl
/-- a module's constant -/
theorem pe_glob {y : Str} {u : Value} {v : V} {t : T} (hg : Gl X y) (hm : X.mg y = some u) (r : RelV v u) (rt : ∀ S, Rep X.K S t v) (hd : (y == ("__debug__" : Str)) = false := by decide) : PEt X W (.Name y pos) (xC t) := pe_con (L2.pe_glob hg hm r hd) rt

/-! ### two operands -/
def x2 (g : T → T → (O → Prop) → Prop) (xa xb : XE) : XE := fun ρ K Z => xa ρ (fun oa ρ1 => xb ρ1 (fun ob ρ2 => g oa.t ob.t fun o => K o ρ2) Z) Z
def x2T (g : T → T → (Bool → Prop) → Prop) (xa xb : XE) : XT := fun ρ K Z => xa ρ (fun oa ρ1 => xb ρ1 (fun ob ρ2 => g oa.t ob.t fun o => K o ρ2) Z) Z
/-- the rule r, told of trees -/
def Op2 (X : Cx) (r : R2) (g : T → T → (O → Prop) → Prop) : Prop := ∀ B Wd H tx ty vx vy K0 Q, Smo X.K B Wd [.sh ty, .sh tx] [vy, vx] H → g tx ty K0 → (∀ o v H', K0 o → Smo X.K B Wd [o] [v] H' → Q v H') → r vx vy H Q
theorem op2_core {r : R2} {g : T → T → (O → Prop) → Prop} (ht : Op2 X r g) {σ : L2.St} {H : Hp} {Q : VK} (h : lE X.K W (x2 g xa xb) σ H Q) : tOp r (lE X.K W xa) (lE X.K W xb) σ H Q := by
  obtain ⟨B, Wd, fr, frv, ρ, K0, Z0, hl, s, hx, hK, hZ⟩ := h
  refine ⟨B, Wd, fr, frv, ρ, _, Z0, hl, s, hx, fun oa ρ1 va H1 k1 s1 => ⟨B, Wd, some oa :: fr, some va :: frv, ρ1, _, Z0, by simp [hl], s1, k1, fun ob ρ2 vb H2 k2 s2 => ?_, hZ.push⟩, hZ⟩
  obtain ⟨B', Wd', _, h2, back⟩ := Sim.front (as := [ob, oa]) (va := [vb, va]) rfl s2
  exact ht B' Wd' H2 oa.t ob.t va vb _ Q h2.frz k2 fun o v H' ko so => hK o ρ2 v H' ko (by simpa using back _ _ _ so)
theorem pe_bin {op : Operator} {r : R2} {g : T → T → (O → Prop) → Prop} (ho : OpR X (binaryOp op) r) (ht : Op2 X r g) (ha : PEt X W a xa) (hb : PEt X W b xb) : PEt X W (.BinOp a op b pos) (x2 g xa xb) :=
  PE.imp (pe_op ho ha hb) fun σ H Q h => op2_core ht h
theorem pe_cmp {op : CmpOp} {r : R2} {g : T → T → (O → Prop) → Prop} (ho : OpR X (compareOp op) r) (ht : Op2 X r g) (ha : PEt X W a xa) (hb : PEt X W b xb) (hm : behindInMarks op b = false) : PEt X W (.Compare a [op] [b] pos) (x2 g xa xb) :=
  PE.imp (pe_cmpR ho ha hb hm) fun σ H Q h => op2_core ht h
theorem pe_ix {r : R2} {g : T → T → (O → Prop) → Prop} (ho : IxR X r) (ht : Op2 X r g) (ha : PEt X W a xa) (hb : PEt X W b xb) (hs : PlainIx b) : PEt X W (.Subscript a b pos) (x2 g xa xb) :=
  PE.imp (L2.pe_ix ho ha hb hs) fun σ H Q h => op2_core ht h
def gB (g : T → T → (Bool → Prop) → Prop) : T → T → (O → Prop) → Prop := fun x y Q => g x y fun b => Q (.sh (.bl b))
theorem pt_cmp {op : CmpOp} {r : R2} {g : T → T → (Bool → Prop) → Prop} (ho : OpR X (compareOp op) r) (ht : Op2 X r (gB g)) (ha : PEt X W a xa) (hb : PEt X W b xb) (hm : behindInMarks op b = false) : PTt X W (.Compare a [op] [b] pos) (x2T g xa xb) :=
  PT.imp (pt_cmpR ho ha hb hm) fun σ H Q h => by
    obtain ⟨B, Wd, fr, frv, ρ, K0, Z0, hl, s, hx, hK, hZ⟩ := h
    refine op2_core (W := W) ht (Q := fun z H3 => ∃ k, z = .bl k ∧ Q k H3) ⟨B, Wd, fr, frv, ρ, fun o ρ' => ∃ k, o = .sh (.bl k) ∧ K0 k ρ', Z0, hl, s, ?_, fun o ρ' v H' q s' => ?_, hZ⟩
    · have e : x2 (gB g) xa xb ρ (fun o ρ' => ∃ k, o = .sh (.bl k) ∧ K0 k ρ') Z0 = xa ρ (fun oa ρ1 => xb ρ1 (fun ob ρ2 => g oa.t ob.t fun k => ∃ k', O.sh (.bl k) = .sh (.bl k') ∧ K0 k' ρ2) Z0) Z0 := rfl
      rw [e]
      have e2 : ∀ ρ2 : R, (fun k : Bool => ∃ k', O.sh (.bl k) = .sh (.bl k') ∧ K0 k' ρ2) = fun k => K0 k ρ2 := fun ρ2 => funext fun k => propext ⟨fun ⟨k', e, q⟩ => by cases e; exact q, fun q => ⟨k, rfl, q⟩⟩
      have e3 : (fun (oa : O) (ρ1 : R) => xb ρ1 (fun ob ρ2 => g oa.t ob.t fun k => ∃ k', O.sh (.bl k) = .sh (.bl k') ∧ K0 k' ρ2) Z0) = fun oa ρ1 => xb ρ1 (fun ob ρ2 => g oa.t ob.t fun k => K0 k ρ2) Z0 := by
        funext oa ρ1
        congr 1
        funext ob ρ2
        rw [e2]
      rw [e3]
      exact hx
    · obtain ⟨k, rfl, q⟩ := q
      obtain ⟨S, _, _, rp⟩ := s'.rep
      have rv : v = .bl k := rp
      exact ⟨k, rv, hK _ _ _ q s'.drop⟩
end
end TL

namespace TL
open PySem PySem.Spec PyProof.Rows L2
section
variable {K : PySem.W.Frag} {B Wd H S : Hp} {os : List O} {vs : List V} {o : O} {v : V} {i : Nat} {t : T} {ts : List T}
theorem owns_sh : ∀ {ts : List T} {vs : List V} {f : List Addr}, Owns K H S (ts.map .sh) vs f → f = [] ∧ Reps K S ts vs
  | [], _, _, h => ⟨h.2, h.1⟩
  | t :: ts, _, _, h => by
    obtain ⟨v, r, f1, f2, rfl, ⟨rfl, h2⟩, h3, rfl⟩ := h
    obtain ⟨rfl, h4⟩ := owns_sh h3
    exact ⟨rfl, v, r, rfl, h2, h4⟩
/-- what a stack of shared values says -/
theorem Smo.get (h : Smo K B Wd (ts.map .sh) vs H) : ∃ S, Same B S ∧ Same S H ∧ Reps K S ts vs ∧ ∀ ts' vs', Reps K S ts' vs' → Smo K B Wd (ts'.map .sh) vs' H := by
  obtain ⟨S, f, h1, h2, h3, h4, h5, h6, h7⟩ := h
  obtain ⟨rfl, r⟩ := owns_sh h4
  exact ⟨S, h1, h2, r, fun ts' vs' r' => ⟨S, [], h1, h2, h3, Owns.sh r', h5, h6, h7⟩⟩
theorem Smo.get2 {tx ty : T} {vx vy : V} (h : Smo K B Wd [.sh ty, .sh tx] [vy, vx] H) : ∃ S, Same B S ∧ Same S H ∧ Rep K S tx vx ∧ Rep K S ty vy ∧ ∀ ts' vs', Reps K S ts' vs' → Smo K B Wd (ts'.map .sh) vs' H := by
  obtain ⟨S, h1, h2, ⟨v1, r1, e1, p1, v2, r2, e2, p2, _⟩, h4⟩ := Smo.get (ts := [ty, tx]) h
  cases e1
  cases e2
  exact ⟨S, h1, h2, p2, p1, h4⟩
theorem Smo.get1 {tx : T} {vx : V} (h : Smo K B Wd [.sh tx] [vx] H) : ∃ S, Same B S ∧ Same S H ∧ Rep K S tx vx ∧ ∀ ts' vs', Reps K S ts' vs' → Smo K B Wd (ts'.map .sh) vs' H := by
  obtain ⟨S, h1, h2, ⟨v1, r1, e1, p1, _⟩, h4⟩ := Smo.get (ts := [tx]) h
  cases e1
  exact ⟨S, h1, h2, p1, h4⟩
theorem Smo.flat (h : Smo K B Wd os vs H) (r : ∀ S, Rep K S t v) : Smo K B Wd [.sh t] [v] H := by
  obtain ⟨S, f, h1, h2, h3, h4, h5, h6, h7⟩ := h
  exact ⟨S, [], h1, h2, h3, Owns.sh (ts := [t]) ⟨v, [], rfl, r S, rfl⟩, List.nodup_nil, fun _ q => (by cases q), h7⟩
theorem reps1 (h : Rep K S t v) : Reps K S [t] [v] := ⟨v, [], rfl, h, rfl⟩
end

/-! ### what operators do with trees -/
def addT : T → T → (O → Prop) → Prop
  | .int i, .int j, Q => Q (.sh (.int (i + j)))
  | .str a, .str b, Q => a.length + b.length ≤ sizeLine ∧ Q (.sh (.str (a ++ b)))
  | .lst a, .lst b, Q => a.length + b.length ≤ sizeLine ∧ Q (.lst ((a ++ b).map .sh))
  | .tup a, .tup b, Q => a.length + b.length ≤ sizeLine ∧ Q (.sh (.tup (a ++ b)))
  | _, _, _ => False
def subT : T → T → (O → Prop) → Prop
  | .int i, .int j, Q => Q (.sh (.int (i - j)))
  | _, _, _ => False
def mulT : T → T → (O → Prop) → Prop
  | .int i, .int j, Q => (CMul i j ∨ CMulW i j) ∧ Q (.sh (.int (i * j)))
  | .lst a, .int k, Q => -(2 ^ 63) ≤ k ∧ k < 2 ^ 63 ∧ a.length * k.toNat ≤ sizeLine ∧ Q (.lst ((List.replicate k.toNat a).flatten.map .sh))
  | _, _, _ => False
def divT : T → T → (O → Prop) → Prop
  | .int i, .int j, Q => CDivW i j ∧ Q (.sh (.int (i / j)))
  | _, _, _ => False
def modT : T → T → (O → Prop) → Prop
  | .int i, .int j, Q => 0 < j ∧ Q (.sh (.int (i % j)))
  | _, _, _ => False
def powT : T → T → (O → Prop) → Prop
  | .int i, .int j, Q => (0 ≤ j ∧ (Builtin.Int.intBits i : Int) * j ≤ 2 ^ 27) ∧ Q (.sh (.int (i ^ j.toNat)))
  | _, _, _ => False

section
variable {X : Cx}
theorem OpR.imp {f : Value → Value → Sem Value} {r r' : R2} (h : OpR X f r) (i : ∀ x y H Q, r' x y H Q → r x y H Q) : OpR X f r' := fun pins s σ H x y v u Q I rx ry q => h pins s σ H x y v u Q I rx ry (i _ _ _ _ q)
abbrev rAddT (K : PySem.W.Frag) : R2 := fun x y H Q => rI0 (fun i j => .int (i + j)) x y H Q ∨ (∃ i j, x = .str i ∧ y = .str j ∧ i.length + j.length ≤ sizeLine ∧ Q (.str (i ++ j)) H) ∨ rCat x y H Q ∨ rCatA K x y H Q
theorem op_addT : OpR X (binaryOp .Add) (rAddT X.K) := op_add.or (op_add_str.or (op_cat.or op_catA))
theorem addT_ok : Op2 X (rAddT X.K) addT := by
  intro B Wd H tx ty vx vy K0 Q h g hQ
  obtain ⟨S, h1, h2, rx, ry, back⟩ := h.get2
  cases tx <;> cases ty <;> first
    | exact (show False from g).elim
    | skip
  · exact .inl ⟨_, _, rx, ry, hQ _ _ _ g (h.flat fun _ => rfl)⟩
  · exact .inr (.inl ⟨_, _, rx, ry, g.1, hQ _ _ _ g.2 (h.flat fun _ => rfl)⟩)
  · obtain ⟨a, va, rfl, ha, ra⟩ := rx
    obtain ⟨b, vb, rfl, hb, rb⟩ := ry
    have la := ra.len
    have lb := rb.len
    refine .inr (.inr (.inr ⟨a, b, va, vb, rfl, rfl, SqT.of (h2 _ _ ha), SqT.of (h2 _ _ hb), by rw [← la, ← lb]; exact g.1, fun e => ?_, fun e e' => ?_, fun _ _ p hp => ?_⟩))
    · subst e
      have e0 := List.eq_nil_of_length_eq_zero la
      subst e0
      exact hQ _ _ _ g.2 (back [_] [_] (reps1 ⟨b, vb, rfl, hb, rb⟩))
    · subst e'
      have e0 := List.eq_nil_of_length_eq_zero lb
      subst e0
      exact hQ _ _ _ g.2 (back [_] [_] (reps1 ⟨a, va, rfl, ha, by rw [List.append_nil]; exact ra⟩))
    · exact hQ _ _ _ g.2 ((back _ _ (ra.app rb)).newS hp fun S r e => ⟨p, _, rfl, e, r⟩)
  · obtain ⟨a, va, rfl, ha, ra⟩ := rx
    obtain ⟨b, vb, rfl, hb, rb⟩ := ry
    have la := ra.len
    have lb := rb.len
    exact .inr (.inr (.inl ⟨a, b, va, vb, rfl, rfl, h2 _ _ ha, h2 _ _ hb, by rw [← la, ← lb]; exact g.1, fun p hp => hQ _ _ _ g.2 ((back _ _ (ra.app rb)).newL hp)⟩))
theorem int_ok {C : Int → Int → Prop} {f : Int → Int → Int} {g : T → T → (O → Prop) → Prop} (hg : ∀ x y Q, g x y Q → ∃ i j, x = .int i ∧ y = .int j ∧ C i j ∧ Q (.sh (.int (f i j)))) : Op2 X (rI C fun i j => .int (f i j)) g := by
  intro B Wd H tx ty vx vy K0 Q h g0 hQ
  obtain ⟨S, h1, h2, rx, ry, back⟩ := h.get2
  obtain ⟨i, j, rfl, rfl, c, q⟩ := hg _ _ _ g0
  exact ⟨i, j, rx, ry, c, hQ _ _ _ q (h.flat fun _ => rfl)⟩
theorem op_sub1 : OpR X (binaryOp .Sub) (rI (fun _ _ => True) fun i j => .int (i - j)) := OpR.imp op_sub fun _ _ _ _ ⟨i, j, e1, e2, _, q⟩ => ⟨i, j, e1, e2, q⟩
theorem subT_ok : Op2 X (rI (fun _ _ => True) fun i j => .int (i - j)) subT := int_ok fun x y Q h => by
  cases x <;> cases y <;> first
    | exact (show False from h).elim
    | exact ⟨_, _, rfl, rfl, trivial, h⟩
theorem divT_ok : Op2 X (rI CDivW fun i j => .int (i / j)) divT := int_ok fun x y Q h => by
  cases x <;> cases y <;> first
    | exact (show False from h).elim
    | exact ⟨_, _, rfl, rfl, h.1, h.2⟩
theorem modT_ok : Op2 X (rI (fun _ j => 0 < j) fun i j => .int (i % j)) modT := int_ok fun x y Q h => by
  cases x <;> cases y <;> first
    | exact (show False from h).elim
    | exact ⟨_, _, rfl, rfl, h.1, h.2⟩
theorem op_powB : OpR X (binaryOp .Pow) (rI (fun i j => 0 ≤ j ∧ (Builtin.Int.intBits i : Int) * j ≤ 2 ^ 27) fun i j => .int (i ^ j.toNat)) := opI fun _ _ _ _ _ _ _ hc q => pow_int hc.1 hc.2 q
theorem powT_ok : Op2 X (rI (fun i j => 0 ≤ j ∧ (Builtin.Int.intBits i : Int) * j ≤ 2 ^ 27) fun i j => .int (i ^ j.toNat)) powT := int_ok fun x y Q h => by
  cases x <;> cases y <;> first
    | exact (show False from h).elim
    | exact ⟨_, _, rfl, rfl, h.1, h.2⟩
abbrev rMulT : R2 := fun x y H Q => rI CMul (fun i j => .int (i * j)) x y H Q ∨ rI CMulW (fun i j => .int (i * j)) x y H Q ∨ rRep x y H Q
theorem op_mulT : OpR X (binaryOp .Mult) rMulT := op_mul.or (op_mulW.or op_rep)
theorem Reps.rep {K : PySem.W.Frag} {S : Hp} {ts : List T} {vs : List V} (h : Reps K S ts vs) : ∀ n, Reps K S (List.replicate n ts).flatten (List.replicate n vs).flatten
  | 0 => rfl
  | n + 1 => by
    rw [List.replicate_succ, List.replicate_succ, List.flatten_cons, List.flatten_cons]
    exact h.app (Reps.rep h n)
theorem mulT_ok : Op2 X rMulT mulT := by
  intro B Wd H tx ty vx vy K0 Q h g hQ
  obtain ⟨S, h1, h2, rx, ry, back⟩ := h.get2
  cases tx <;> cases ty <;> first
    | exact (show False from g).elim
    | skip
  · rcases g.1 with c | c
    · exact .inl ⟨_, _, rx, ry, c, hQ _ _ _ g.2 (h.flat fun _ => rfl)⟩
    · exact .inr (.inl ⟨_, _, rx, ry, c, hQ _ _ _ g.2 (h.flat fun _ => rfl)⟩)
  · obtain ⟨a, va, rfl, ha, ra⟩ := rx
    have la := ra.len
    obtain ⟨g1, g2, g3, g4⟩ := g
    exact .inr (.inr ⟨a, _, va, rfl, ry, h2 _ _ ha, g1, g2, by rw [← la]; exact g3, fun p hp => hQ _ _ _ g4 ((back _ _ (ra.rep _)).newL hp)⟩)

/-! ### comparisons -/
def intT (f : Int → Int → Bool) : T → T → (Bool → Prop) → Prop
  | .int i, .int j, Q => Q (f i j)
  | _, _, _ => False
abbrev ltT := intT fun i j => decide (i < j)
abbrev leT := intT fun i j => decide (i ≤ j)
abbrev gtT := intT fun i j => decide (j < i)
abbrev geT := intT fun i j => decide (j ≤ i)
theorem intT_ok {f : Int → Int → Bool} : Op2 X (rI0 fun i j => .bl (f i j)) (gB (intT f)) := by
  intro B Wd H tx ty vx vy K0 Q h g hQ
  obtain ⟨S, h1, h2, rx, ry, back⟩ := h.get2
  cases tx <;> cases ty <;> first
    | exact (show False from g).elim
    | exact ⟨_, _, rx, ry, hQ _ _ _ g (h.flat fun _ => rfl)⟩
mutual
def T.d : T → PyData
  | .bl b => .bool b
  | .int i => .int i
  | .str x => .str x
  | .tup xs => .tuple (T.ds xs)
  | .lst xs => .list (T.ds xs)
  | .ktp xs => .tuple (T.ds xs)
  | .kls xs => .list (T.ds xs)
  | _ => .none
def T.ds : List T → List PyData
  | [] => []
  | x :: xs => T.d x :: T.ds xs
end
mutual
def T.isD : T → Bool
  | .non => true
  | .bl _ => true
  | .int _ => true
  | .str x => PyData.strOk x
  | .tup xs => T.isDs xs
  | .lst xs => T.isDs xs
  | .ktp xs => T.isDs xs
  | .kls xs => T.isDs xs
  | _ => false
def T.isDs : List T → Bool
  | [] => true
  | x :: xs => T.isD x && T.isDs xs
end
mutual
theorem Rep.dp {K : PySem.W.Frag} {S H : Hp} (e : Same S H) : ∀ {t : T} {v : V}, t.isD = true → Rep K S t v → Dp K H v t.d
  | .non, _, _, h => by rw [show _ = V.non from h]; exact .non
  | .bl _, _, _, h => by rw [show _ = V.bl _ from h]; exact .bl _
  | .int _, _, _, h => by rw [show _ = V.int _ from h]; exact .int _
  | .str _, _, _, h => by rw [show _ = V.str _ from h]; exact .str _
  | .tup xs, _, q, h => by
    obtain ⟨a, vs, rfl, h2, h3⟩ := h
    exact .tup (SqT.of (e _ _ h2)) (Reps.dp e q h3)
  | .lst xs, _, q, h => by
    obtain ⟨a, vs, rfl, h2, h3⟩ := h
    exact .lst (SqL.of (e _ _ h2)) (Reps.dp e q h3)
  | .ktp xs, _, q, h => by
    obtain ⟨a, vs, rfl, h2, h3⟩ := h
    exact .tup (SqT.mono e h2) (Reps.dp e q h3)
  | .kls xs, _, q, h => by
    obtain ⟨a, vs, rfl, h2, h3⟩ := h
    exact .lst (Same.seq e h2) (Reps.dp e q h3)
theorem Reps.dp {K : PySem.W.Frag} {S H : Hp} (e : Same S H) : ∀ {ts : List T} {vs : List V}, T.isDs ts = true → Reps K S ts vs → DpAll K H vs (T.ds ts)
  | [], _, _, h => by rw [show _ = [] from h]; exact .nil
  | t :: ts, _, q, h => by
    obtain ⟨v, r, rfl, h2, h3⟩ := h
    have q' : (T.isD t && T.isDs ts) = true := q
    rw [Bool.and_eq_true] at q'
    exact .cons (Rep.dp e q'.1 h2) (Reps.dp e q'.2 h3)
end
mutual
theorem T.can : ∀ {t : T}, t.isD = true → PyData.canLay0 t.d = true
  | .non, _ => by simp [T.d, PyData.canLay0]
  | .bl _, _ => by simp [T.d, PyData.canLay0]
  | .int _, _ => by simp [T.d, PyData.canLay0]
  | .str x, h => by
    simp only [T.d, PyData.canLay0]
    exact h
  | .tup xs, h => by simp only [T.d, PyData.canLay0]; exact T.cans h
  | .lst xs, h => by simp only [T.d, PyData.canLay0]; exact T.cans h
  | .ktp xs, h => by simp only [T.d, PyData.canLay0]; exact T.cans h
  | .kls xs, h => by simp only [T.d, PyData.canLay0]; exact T.cans h
theorem T.cans : ∀ {ts : List T}, T.isDs ts = true → PyData.canLayAll0 (T.ds ts) = true
  | [], _ => by simp [T.ds, PyData.canLayAll0]
  | t :: ts, h => by
    have q' : (T.isD t && T.isDs ts) = true := h
    rw [Bool.and_eq_true] at q'
    simp only [T.ds, PyData.canLayAll0, T.can q'.1, T.cans q'.2, Bool.and_self]
end
/-- == -/
def eqT (x y : T) (Q : Bool → Prop) : Prop := (x.isD = true ∧ y.isD = true ∧ x.d.depth ≤ 64 ∧ y.d.depth ≤ 64) ∧ Q (PyData.eqv x.d y.d)
def neT (x y : T) (Q : Bool → Prop) : Prop := eqT x y fun b => Q (!b)
theorem shaped_of {t : T} (h : t.isD = true) (d : t.d.depth ≤ 64) : SeqAt.shaped t.d = true := by
  unfold SeqAt.shaped
  rw [T.can h, decide_eq_true d]
  rfl
theorem eqT_ok : Op2 X (rEqD X.K) (gB eqT) := by
  intro B Wd H tx ty vx vy K0 Q h g hQ
  obtain ⟨S, h1, h2, rx, ry, back⟩ := h.get2
  obtain ⟨⟨dx, dy, hx, hy⟩, g⟩ := g
  exact ⟨_, _, rx.dp h2 dx, ry.dp h2 dy, shaped_of dx hx, shaped_of dy hy, hQ _ _ _ g (h.flat fun _ => rfl)⟩
theorem neT_ok : Op2 X (rNeD X.K) (gB neT) := by
  intro B Wd H tx ty vx vy K0 Q h g hQ
  obtain ⟨S, h1, h2, rx, ry, back⟩ := h.get2
  obtain ⟨⟨dx, dy, hx, hy⟩, g⟩ := g
  exact ⟨_, _, rx.dp h2 dx, ry.dp h2 dy, shaped_of dx hx, shaped_of dy hy, hQ _ _ _ g (h.flat fun _ => rfl)⟩
/-- is None -/
def isNT (x y : T) (Q : Bool → Prop) : Prop := match y with
  | .non => (match x with
    | .non => Q true
    | .adr _ => False
    | _ => Q false)
  | _ => False
def notNT (x y : T) (Q : Bool → Prop) : Prop := isNT x y fun b => Q (!b)
theorem Rep.isN {K : PySem.W.Frag} {S : Hp} {t : T} {v : V} (h : Rep K S t v) {Q : Bool → Prop} (g : isNT t .non Q) : Q (decide (v = .non)) := by
  cases t with
  | non => rw [show v = .non from h]; exact g
  | adr u => exact (show False from g).elim
  | bl _ => rw [show v = .bl _ from h]; exact g
  | int _ => rw [show v = .int _ from h]; exact g
  | str _ => rw [show v = .str _ from h]; exact g
  | exn _ _ _ _ _ => obtain ⟨rfl, _⟩ := h; exact g
  | ins _ _ _ => obtain ⟨a, _, _, rfl, _⟩ := h; exact g
  | _ => obtain ⟨a, _, rfl, _⟩ := h; exact g
theorem isNT_ok : Op2 X (fun x y H Q => y = .non ∧ Q (.bl (decide (x = .non))) H) (gB isNT) := by
  intro B Wd H tx ty vx vy K0 Q h g hQ
  obtain ⟨S, h1, h2, rx, ry, back⟩ := h.get2
  cases ty <;> first
    | exact (show False from g).elim
    | exact ⟨ry, hQ _ _ _ (rx.isN (Q := fun b => K0 (.sh (.bl b))) g) (h.flat fun _ => rfl)⟩
theorem notNT_ok : Op2 X (fun x y H Q => y = .non ∧ Q (.bl (!decide (x = .non))) H) (gB notNT) := by
  intro B Wd H tx ty vx vy K0 Q h g hQ
  obtain ⟨S, h1, h2, rx, ry, back⟩ := h.get2
  cases ty <;> first
    | exact (show False from g).elim
    | exact ⟨ry, hQ _ _ _ (rx.isN (Q := fun b => K0 (.sh (.bl (!b)))) g) (h.flat fun _ => rfl)⟩

/-! ### x in .. -/
def T.key : T → Option Key
  | .int i => some (.inl i)
  | .str x => some (.inr x)
  | _ => none
def T.keys : List T → Option (List Key)
  | [] => some []
  | t :: ts => t.key.bind fun k => (T.keys ts).map fun ks => k :: ks
def lookT {κ : Type} [DecidableEq κ] (ks : List κ) (xs : List T) (k : κ) : Option T := (ks.zip xs).lookup k
def inT (x y : T) (Q : Bool → Prop) : Prop := match y with
  | .lst ts => (x.isD = true ∧ T.isDs ts = true ∧ x.d.depth ≤ 64 ∧ PyData.depthAll (T.ds ts) ≤ 63) ∧ Q (ts.any fun z => PyData.eqv z.d x.d)
  | .tup ts => (x.isD = true ∧ x.flat = true ∧ ts.all (fun z => z.isD && z.flat) = true) ∧ Q (ts.any fun z => PyData.eqv z.d x.d)
  | .ktp ts => (x.isD = true ∧ x.flat = true ∧ ts.all (fun z => z.isD && z.flat) = true) ∧ Q (ts.any fun z => PyData.eqv z.d x.d)
  | .dic ks ts => (match x.key with
    | some k => Q (ks.any fun z => decide (z = k))
    | none => False)
  | .dit ks ts => (match x with
    | .tup xs => (match T.keys xs with
      | some k => Q (ks.any fun z => decide (z = k))
      | none => False)
    | _ => False)
  | _ => False
def notInT (x y : T) (Q : Bool → Prop) : Prop := inT x y fun b => Q (!b)

theorem Op2.neg {r r' : R2} {g : T → T → (Bool → Prop) → Prop} (h : Op2 X r (gB g)) (hr : ∀ x y H Q, r x y H (fun v H' => ∀ b, v = .bl b → Q (.bl (!b)) H') → r' x y H Q) : Op2 X r' (gB fun x y Q => g x y fun b => Q (!b)) := by
  intro B Wd H tx ty vx vy K0 Q hS hg hQ
  refine hr _ _ _ _ (h B Wd H tx ty vx vy (fun o => ∃ b, o = .sh (.bl b) ∧ K0 (.sh (.bl (!b)))) _ hS ?_ fun o v H' q s b e => ?_)
  · have e : (fun b : Bool => ∃ b', O.sh (.bl b) = .sh (.bl b') ∧ K0 (.sh (.bl (!b')))) = fun b => K0 (.sh (.bl (!b))) := funext fun b => propext ⟨fun ⟨b', e, q⟩ => by cases e; exact q, fun q => ⟨b, rfl, q⟩⟩
    show g tx ty fun b => ∃ b', O.sh (.bl b) = .sh (.bl b') ∧ K0 (.sh (.bl (!b')))
    rw [e]
    exact hg
  · obtain ⟨k, rfl, q⟩ := q
    subst e
    obtain ⟨S, _, _, rp, _⟩ := s.get1
    have e2 : V.bl b = .bl k := rp
    cases e2
    exact hQ _ _ _ q (s.flat fun _ => rfl)
theorem T.keys_len : ∀ {ts : List T} {ks : List Key}, T.keys ts = some ks → ts.length = ks.length
  | [], _, h => by cases h; rfl
  | t :: ts, ks, h => by
    simp only [T.keys] at h
    cases e : t.key with
    | none => rw [e] at h; cases h
    | some k =>
      rw [e] at h
      cases e2 : T.keys ts with
      | none => rw [e2] at h; cases h
      | some kk => rw [e2] at h; cases h; simp [T.keys_len e2]
theorem Rep.key {K : PySem.W.Frag} {S : Hp} {t : T} {v : V} {k : Key} (h : Rep K S t v) (e : t.key = some k) : v = kV k := by
  cases t <;> first
    | (cases e; exact h)
    | cases e
theorem Reps.keys {K : PySem.W.Frag} {S : Hp} : ∀ {ts : List T} {vs : List V} {ks : List Key}, Reps K S ts vs → T.keys ts = some ks → vs = ks.map kV
  | [], _, _, h, e => by cases e; exact h
  | t :: ts, _, ks, h, e => by
    obtain ⟨v, r, rfl, h2, h3⟩ := h
    simp only [T.keys] at e
    cases e1 : t.key with
    | none => rw [e1] at e; cases e
    | some k =>
      rw [e1] at e
      cases e2 : T.keys ts with
      | none => rw [e2] at e; cases e
      | some kk =>
        rw [e2] at e
        cases e
        rw [h2.key e1, Reps.keys h3 e2]
        rfl
theorem any_zip {κ : Type} [DecidableEq κ] (k : κ) : ∀ {ks : List κ} {vs : List V}, ks.length = vs.length → ((ks.zip vs).any fun kv => decide (kv.1 = k)) = ks.any fun z => decide (z = k)
  | [], _, _ => rfl
  | a :: ks, [], h => by simp at h
  | a :: ks, v :: vs, h => by
    rw [List.zip_cons_cons, List.any_cons, List.any_cons, any_zip k (by simpa using h)]
abbrev rInT (K : PySem.W.Frag) : R2 := fun x y H Q => rInD K x y H Q ∨ rIn K false x y H Q ∨ ∃ a o, y = .ref a ∧ DGet H a x o ∧ Q (.bl o.isSome) H
abbrev rNotInT (K : PySem.W.Frag) : R2 := fun x y H Q => rNotInD K x y H Q ∨ rIn K true x y H Q ∨ ∃ a o, y = .ref a ∧ DGet H a x o ∧ Q (.bl (!o.isSome)) H
theorem op_dinR (hu : X.A.units + 1 < cLine) : OpR X (compareOp .In) (fun x y H Q => ∃ a o, y = .ref a ∧ DGet H a x o ∧ Q (.bl o.isSome) H) := by
  intro pins s σ H x y v u Q I rx ry h
  obtain ⟨a, o, rfl, g, q⟩ := h
  obtain rfl : u = Value.ref a := ry
  exact d_in hu I g rx fun s3 I3 => ⟨.bl o.isSome, H, I3, rfl, q⟩
theorem op_dnotinR (hu : X.A.units + 1 < cLine) : OpR X (compareOp .NotIn) (fun x y H Q => ∃ a o, y = .ref a ∧ DGet H a x o ∧ Q (.bl (!o.isSome)) H) := by
  intro pins s σ H x y v u Q I rx ry h
  obtain ⟨a, o, rfl, g, q⟩ := h
  obtain rfl : u = Value.ref a := ry
  exact d_notIn hu I g rx fun s3 I3 => ⟨.bl (!o.isSome), H, I3, rfl, q⟩
theorem op_inT (hu : X.A.units + 65 < cLine) : OpR X (compareOp .In) (rInT X.K) := (op_inD hu).or (op_in_seq.or (op_dinR (by omega)))
theorem op_notInT (hu : X.A.units + 65 < cLine) : OpR X (compareOp .NotIn) (rNotInT X.K) := (op_notInD hu).or (op_notIn_seq.or (op_dnotinR (by omega)))
theorem Rep.fl {K : PySem.W.Frag} {S : Hp} {t : T} {v : V} (h : Rep K S t v) (d : t.isD = true) (f : t.flat = true) : flatV v = true := by
  cases t <;> first
    | exact (Bool.false_ne_true f).elim
    | exact (Bool.false_ne_true d).elim
    | (rw [show v = _ from h]; rfl)
theorem Rep.eqv {K : PySem.W.Frag} {S : Hp} {t u : T} {v w : V} (h : Rep K S t v) (d : t.isD = true) (f : t.flat = true) (h' : Rep K S u w) (d' : u.isD = true) (f' : u.flat = true) : eqV v w = PyData.eqv t.d u.d := by
  cases t <;> first
    | exact (Bool.false_ne_true f).elim
    | exact (Bool.false_ne_true d).elim
    | (cases u <;> first
        | exact (Bool.false_ne_true f').elim
        | exact (Bool.false_ne_true d').elim
        | (rw [show v = _ from h, show w = _ from h']; simp [eqV, T.d, PyData.eqv]))
theorem Reps.fl {K : PySem.W.Frag} {S : Hp} : ∀ {ts : List T} {vs : List V}, Reps K S ts vs → ts.all (fun z => z.isD && z.flat) = true → vs.all flatV = true
  | [], _, h, _ => by rw [show _ = [] from h]; rfl
  | t :: ts, _, h, e => by
    obtain ⟨v, r, rfl, h2, h3⟩ := h
    rw [List.all_cons, Bool.and_eq_true, Bool.and_eq_true] at e
    rw [List.all_cons, Rep.fl h2 e.1.1 e.1.2, Reps.fl h3 e.2]
    rfl
theorem Reps.inV {K : PySem.W.Frag} {S : Hp} {u : T} {w : V} (h' : Rep K S u w) (d' : u.isD = true) (f' : u.flat = true) : ∀ {ts : List T} {vs : List V}, Reps K S ts vs → ts.all (fun z => z.isD && z.flat) = true → inV w vs = ts.any fun z => PyData.eqv z.d u.d
  | [], _, h, _ => by rw [show _ = [] from h]; rfl
  | t :: ts, _, h, e => by
    obtain ⟨v, r, rfl, h2, h3⟩ := h
    rw [List.all_cons, Bool.and_eq_true, Bool.and_eq_true] at e
    have ih := Reps.inV h' d' f' h3 e.2
    unfold L2.inV at ih ⊢
    rw [List.any_cons, List.any_cons, Rep.eqv h2 e.1.1 e.1.2 h' d' f', ih]
theorem ds_any {p : PyData → Bool} : ∀ ts : List T, ((T.ds ts).any p) = ts.any fun z => p z.d
  | [] => rfl
  | t :: ts => by rw [T.ds, List.any_cons, List.any_cons, ds_any ts]
theorem inT_ok : Op2 X (rInT X.K) (gB inT) := by
  intro B Wd H tx ty vx vy K0 Q h g hQ
  obtain ⟨S, h1, h2, rx, ry, back⟩ := h.get2
  have fin : ∀ b, K0 (.sh (.bl b)) → Q (.bl b) H := fun b q => hQ _ _ _ q (h.flat fun _ => rfl)
  cases ty <;> first
    | exact (show False from g).elim
    | skip
  · obtain ⟨⟨d1, f1, a1⟩, g⟩ := g
    obtain ⟨a, va, rfl, ha, ra⟩ := ry
    exact .inr (.inl ⟨a, va, rfl, .inr (SqT.of (h2 _ _ ha)), rx.fl d1 f1, ra.fl a1, by rw [Reps.inV rx d1 f1 ra a1]; exact fin _ g⟩)
  · obtain ⟨⟨d1, d2, e1, e2⟩, g⟩ := g
    refine .inl ⟨_, _, rx.dp h2 d1, Rep.dp (t := .lst _) h2 d2 ry, shaped_of d1 e1, shaped_of (t := .lst _) d2 ?_, ?_⟩
    · simp only [T.d, PyData.depth]
      omega
    · rw [ds_any]
      exact fin _ g
  · obtain ⟨⟨d1, f1, a1⟩, g⟩ := g
    obtain ⟨a, va, rfl, ha, ra⟩ := ry
    exact .inr (.inl ⟨a, va, rfl, .inr (SqT.mono h2 ha), rx.fl d1 f1, ra.fl a1, by rw [Reps.inV rx d1 f1 ra a1]; exact fin _ g⟩)
  · rename_i ks ts
    obtain ⟨a, va, rfl, ha, hl, ra⟩ := ry
    have g' : (match tx.key with | some k => K0 (.sh (.bl (ks.any fun z => decide (z = k)))) | none => False) := g
    cases e : tx.key with
    | none => rw [e] at g'; exact g'.elim
    | some k =>
      rw [e] at g'
      refine .inr (.inr ⟨a, valV (ks.zip va) k, rfl, ?_, ?_⟩)
      · rw [rx.key e]
        exact DGet.k (h2 _ _ ha)
      · rw [← valV_any, any_zip k (hl.trans ra.len)]
        exact fin _ g'
  · rename_i ks ts
    obtain ⟨a, va, rfl, ha, hl, ra⟩ := ry
    cases tx <;> first
      | exact (show False from g).elim
      | skip
    rename_i xs
    obtain ⟨b, vb, rfl, hb, rb⟩ := rx
    have g' : (match T.keys xs with | some k => K0 (.sh (.bl (ks.any fun z => decide (z = k)))) | none => False) := g
    cases e : T.keys xs with
    | none => rw [e] at g'; exact g'.elim
    | some k =>
      rw [e] at g'
      refine .inr (.inr ⟨a, valV (ks.zip va) k, rfl, ?_, ?_⟩)
      · exact DGet.t (h2 _ _ ha) (by rw [← rb.keys e]; exact h2 _ _ hb)
      · rw [← valV_any, any_zip k (hl.trans ra.len)]
        exact fin _ g'
theorem notInT_ok : Op2 X (rNotInT X.K) (gB notInT) := Op2.neg inT_ok fun x y H Q h => by
  rcases h with ⟨d, ds, a1, a2, a3, a4, q⟩ | ⟨p, xs, a1, a2, a3, a4, q⟩ | ⟨a, o, a1, a2, q⟩
  · exact .inl ⟨d, ds, a1, a2, a3, a4, q _ rfl⟩
  · exact .inr (.inl ⟨p, xs, a1, a2, a3, a4, q _ rfl⟩)
  · exact .inr (.inr ⟨a, o, a1, a2, q _ rfl⟩)

/-! ### subscripts -/
def ixT : T → T → (O → Prop) → Prop
  | .tup ts, .int i, Q => (match atI ts i with
    | some t => Q (.sh t)
    | none => False)
  | .lst ts, .int i, Q => (match atI ts i with
    | some t => Q (.sh t)
    | none => False)
  | .ktp ts, .int i, Q => (match atI ts i with
    | some t => Q (.sh t)
    | none => False)
  | .str z, .int i, Q => z.length ≤ sizeLine ∧ (match atI z.cps.toList i with
    | some c => Q (.sh (.str ⟨#[c]⟩))
    | none => False)
  | _, _, _ => False
theorem Reps.atI {K : PySem.W.Frag} {S : Hp} {ts : List T} {vs : List V} (h : Reps K S ts vs) {i : Int} {t : T} (e : L2.atI ts i = some t) : ∃ v, L2.atI vs i = some v ∧ Rep K S t v := by
  unfold L2.atI at e ⊢
  rw [← h.len]
  cases q : ixN ts.length i with
  | none => rw [q] at e; cases e
  | some j =>
    rw [q] at e
    exact h.get e
theorem ixT_ok : Op2 X (rIx X.K) ixT := by
  intro B Wd H tx ty vx vy K0 Q h g hQ
  obtain ⟨S, h1, h2, rx, ry, back⟩ := h.get2
  cases tx <;> cases ty <;> first
    | exact (show False from g).elim
    | skip
  · rename_i z i
    obtain ⟨gl, g⟩ := g
    cases e : atI z.cps.toList i with
    | none => rw [e] at g; exact g.elim
    | some c =>
      rw [e] at g
      exact .inr (.inr ⟨z, i, c, rx, ry, gl, e, hQ _ _ _ g (h.flat fun _ => rfl)⟩)
  · rename_i ts i
    obtain ⟨a, va, rfl, ha, ra⟩ := rx
    have g' : (match atI ts i with | some t => K0 (.sh t) | none => False) := g
    cases e : atI ts i with
    | none => rw [e] at g'; exact g'.elim
    | some t =>
      rw [e] at g'
      obtain ⟨v, e1, e2⟩ := ra.atI e
      exact .inr (.inl ⟨a, va, i, v, rfl, ry, SqT.of (h2 _ _ ha), e1, hQ _ _ _ g' (back [_] [_] (reps1 e2))⟩)
  · rename_i ts i
    obtain ⟨a, va, rfl, ha, ra⟩ := rx
    have g' : (match atI ts i with | some t => K0 (.sh t) | none => False) := g
    cases e : atI ts i with
    | none => rw [e] at g'; exact g'.elim
    | some t =>
      rw [e] at g'
      obtain ⟨v, e1, e2⟩ := ra.atI e
      exact .inl ⟨a, va, i, v, rfl, ry, SqL.of (h2 _ _ ha), e1, hQ _ _ _ g' (back [_] [_] (reps1 e2))⟩
  · rename_i ts i
    obtain ⟨a, va, rfl, ha, ra⟩ := rx
    have g' : (match atI ts i with | some t => K0 (.sh t) | none => False) := g
    cases e : atI ts i with
    | none => rw [e] at g'; exact g'.elim
    | some t =>
      rw [e] at g'
      obtain ⟨v, e1, e2⟩ := ra.atI e
      exact .inr (.inl ⟨a, va, i, v, rfl, ry, SqT.mono h2 ha, e1, hQ _ _ _ g' (back [_] [_] (reps1 e2))⟩)
end
end TL

namespace TL
open PySem PySem.Spec PyProof.Rows L2
/-! ### lists of arguments, displays -/
def xNil : XA := fun ρ K _ => K [] ρ
def xCons (x : XE) (y : XA) : XA := fun ρ K Z => x ρ (fun o ρ1 => y ρ1 (fun os ρ2 => K (o :: os) ρ2) Z) Z
def xLst (y : XA) : XE := fun ρ K Z => y ρ (fun os ρ' => os.length ≤ sizeLine ∧ K (.lst os) ρ') Z
def xTup (y : XA) : XE := fun ρ K Z => y ρ (fun os ρ' => os.length ≤ sizeLine ∧ K (.sh (.tup (O.ts os))) ρ') Z
section
variable {K : PySem.W.Frag} {B Wd H S : Hp} {os : R} {vs : L2.St} {o : O} {v : V} {i : Nat} {t : T}
theorem Sim.rot {l1 l2 : R} {v1 v2 : L2.St} {x : Option O} {w : Option V} (hl : l1.length = v1.length) (h : Sim K B Wd (l1 ++ x :: l2) (v1 ++ w :: v2) H) : Sim K B Wd (x :: (l1 ++ l2)) (w :: (v1 ++ v2)) H := by
  refine h.via (fun j => if j = 0 then l1.length else if j ≤ l1.length then j - 1 else j) (fun a b _ _ => ?_) (by have := h.len; simp at this ⊢; omega) fun j o e => ?_
  · repeat' split
    all_goals omega
  · cases j with
    | zero =>
      simp at e
      subst e
      refine ⟨by simp, fun v q => ?_⟩
      simp only [if_true] at q
      rw [hl] at q
      rw [List.getElem?_append_right (Nat.le_refl _)] at q
      simpa using q
    | succ j =>
      by_cases hj : j < l1.length
      · simp only [Nat.add_one_ne_zero, if_false, if_pos (show j + 1 ≤ l1.length from hj), Nat.add_sub_cancel]
        rw [List.getElem?_cons_succ, List.getElem?_append_left hj] at e
        refine ⟨by rw [List.getElem?_append_left hj]; exact e, fun v q => ?_⟩
        rw [List.getElem?_append_left (by omega)] at q
        rw [List.getElem?_cons_succ, List.getElem?_append_left (by omega)]
        exact q
      · simp only [Nat.add_one_ne_zero, if_false, if_neg (show ¬ j + 1 ≤ l1.length by omega)]
        rw [List.getElem?_cons_succ, List.getElem?_append_right (by omega)] at e
        obtain ⟨k, hk⟩ : ∃ k, j - l1.length = k := ⟨_, rfl⟩
        rw [hk] at e
        refine ⟨?_, fun v q => ?_⟩
        · rw [List.getElem?_append_right (by omega), show j + 1 - l1.length = k + 1 by omega]
          simpa using e
        · rw [List.getElem?_append_right (by omega), show j + 1 - v1.length = k + 1 by omega] at q
          rw [List.getElem?_cons_succ, List.getElem?_append_right (by omega), show j - v1.length = k by omega]
          simpa using q
end
section
variable {X : Cx} {W : L2.WX} {a b c e : Expr} {es rest : List Expr} {xa xb xc x : XE} {y : XA} {pos p : Pos}
theorem pa_nil : PAt X W [] xNil := PA.imp L2.pa_nil fun σ H Q ⟨B, Wd, fr, frv, ρ, K0, Z0, hl, s, hx, hK, hZ⟩ => hK [] ρ [] H rfl hx (by simpa using s)
theorem pa_cons (ha : PEt X W e x) (hr : PAt X W es y) (hs : starEach (e :: es) X.env = (false, eval e X.env) :: starEach es X.env := by rfl) : PAt X W (e :: es) (xCons x y) :=
  PA.imp (L2.pa_cons ha hr hs) fun σ H Q ⟨B, Wd, fr, frv, ρ, K0, Z0, hl, s, hx, hK, hZ⟩ =>
    ⟨B, Wd, fr, frv, ρ, _, Z0, hl, s, hx, fun o ρ1 v H1 k1 s1 => ⟨B, Wd, some o :: fr, some v :: frv, ρ1, _, Z0, by simp [hl], s1, k1, fun os ρ2 vs H2 hle k2 s2 =>
      hK (o :: os) ρ2 (v :: vs) H2 (by simp [hle]) k2 (by simpa using Sim.rot (l1 := os.map some) (v1 := vs.map some) (by simp [hle]) (by simpa using s2)), hZ.push⟩, hZ⟩
theorem pe_lst (h : PAt X W es y) : PEt X W (.List es pos) (xLst y) := PE.imp (L2.pe_lst h) fun σ H Q ⟨B, Wd, fr, frv, ρ, K0, Z0, hl, s, hx, hK, hZ⟩ =>
  ⟨B, Wd, fr, frv, ρ, _, Z0, hl, s, hx, fun os ρ1 vs H1 hle k1 s1 => ⟨by rw [← hle]; exact k1.1, fun p hp => by
    obtain ⟨B', Wd', _, h2, back⟩ := Sim.front (as := os) (va := vs) hle s1
    exact hK _ _ _ _ k1.2 (by simpa using back _ _ _ (h2.newL hp))⟩, hZ⟩
theorem pe_tup {k} (h : PAt X W es y) : PEt X W (.Tuple es k pos) (xTup y) := PE.imp (L2.pe_tup h) fun σ H Q ⟨B, Wd, fr, frv, ρ, K0, Z0, hl, s, hx, hK, hZ⟩ =>
  ⟨B, Wd, fr, frv, ρ, _, Z0, hl, s, hx, fun os ρ1 vs H1 hle k1 s1 => ⟨by rw [← hle]; exact k1.1, fun p hp => by
    obtain ⟨B', Wd', _, h2, back⟩ := Sim.front (as := os) (va := vs) hle s1
    exact hK _ _ _ _ k1.2 (by simpa using back _ _ _ (h2.newT hp))⟩, hZ⟩

/-! ### built-in functions -/
def xB (g : List T → (O → Prop) → Prop) (y : XA) : XE := fun ρ K Z => y ρ (fun os ρ' => g (O.ts os) fun o => K o ρ') Z
def CallT (X : Cx) (r : List V → Hp → VK → Prop) (g : List T → (O → Prop) → Prop) : Prop := ∀ B Wd H ts vs K0 Q, Smo X.K B Wd (ts.map .sh) vs H → g ts K0 → (∀ o v H', K0 o → Smo X.K B Wd [o] [v] H' → Q v H') → r vs H Q
theorem callT_core {r : List V → Hp → VK → Prop} {g : List T → (O → Prop) → Prop} (ht : CallT X r g) {σ : L2.St} {H : Hp} {Q : VK} (h : lE X.K W (xB g y) σ H Q) : tCB r (lA X.K W y) σ H Q := by
  obtain ⟨B, Wd, fr, frv, ρ, K0, Z0, hl, s, hx, hK, hZ⟩ := h
  refine ⟨B, Wd, fr, frv, ρ, _, Z0, hl, s, hx, fun os ρ1 vs H1 hle k1 s1 => ?_, hZ⟩
  obtain ⟨B', Wd', _, h2, back⟩ := Sim.front (as := os) (va := vs) hle s1
  exact ht B' Wd' H1 (O.ts os) vs _ Q h2.frz k1 fun o v H' ko so => hK o ρ1 v H' ko (by simpa using back _ _ _ so)
theorem pe_callB {id : String} {n : Str} {r : List V → Hp → VK → Prop} {g : List T → (O → Prop) → Prop} (hc : CallR X (.builtin id) r) (ht : CallT X r g) (hg : Gl X n) (hm : X.mg n = none) (hv : bootBuiltins n = some (.builtin id)) (ha : PAt X W (e :: es) y) (hn : n ≠ "__name__" := by decide) (hdb : (n == ("__debug__" : Str)) = false := by decide)
    (he : starEach (e :: es) X.env = (false, eval e X.env) :: starEach es X.env := by rfl) (hpl : (backTo pos (starEach es X.env)).any (·.1) = false := by rfl) : PEt X W (.Call (.Name n p) (e :: es) [] pos) (xB g y) :=
  PE.imp (L2.pe_callB hc hg hm hv ha hn hdb he hpl) fun σ H Q h => callT_core ht h
theorem pe_callTy {Ty : String} {n : Str} {r : List V → Hp → VK → Prop} {g : List T → (O → Prop) → Prop} (hc : CallR X (.type Ty) r) (ht : CallT X r g) (hg : Gl X n) (hm : X.mg n = none) (hv : bootBuiltins n = some (.type Ty)) (ha : PAt X W (e :: es) y) (hn : n ≠ "__name__" := by decide) (hdb : (n == ("__debug__" : Str)) = false := by decide)
    (he : starEach (e :: es) X.env = (false, eval e X.env) :: starEach es X.env := by rfl) (hpl : (backTo pos (starEach es X.env)).any (·.1) = false := by rfl) : PEt X W (.Call (.Name n p) (e :: es) [] pos) (xB g y) :=
  PE.imp (L2.pe_callTy hc hg hm hv ha hn hdb he hpl) fun σ H Q h => callT_core ht h
theorem CallR.imp {f : Value} {r r' : List V → Hp → VK → Prop} (h : CallR X f r) (i : ∀ vs H Q, r' vs H Q → r vs H Q) : CallR X f r' := fun pins s σ H vs us Q I rv q => h pins s σ H vs us Q I rv (i _ _ _ q)
def un1 (f : T → (O → Prop) → Prop) : List T → (O → Prop) → Prop
  | [t], Q => f t Q
  | _, _ => False
def un2 (f : T → T → (O → Prop) → Prop) : List T → (O → Prop) → Prop
  | [t, u], Q => f t u Q
  | _, _ => False
theorem CallT.one {r : List V → Hp → VK → Prop} {f : T → (O → Prop) → Prop}
    (h : ∀ B Wd S H t v K0 Q, Smo X.K B Wd [.sh t] [v] H → Same S H → Rep X.K S t v → (∀ ts' vs', Reps X.K S ts' vs' → Smo X.K B Wd (ts'.map .sh) vs' H) → f t K0 → (∀ o v H', K0 o → Smo X.K B Wd [o] [v] H' → Q v H') → r [v] H Q) : CallT X r (un1 f) := by
  intro B Wd H ts vs K0 Q hs g hQ
  match ts, g with
  | [t], g =>
    obtain ⟨S, h1, h2, ⟨v, r0, e, h3, h4⟩, back⟩ := Smo.get (ts := [t]) hs
    have e0 : r0 = [] := h4
    subst e0
    subst e
    exact h B Wd S H t v K0 Q hs h2 h3 back g hQ
  | [], g => exact (show False from g).elim
  | _ :: _ :: _, g => exact (show False from g).elim
theorem CallT.two {r : List V → Hp → VK → Prop} {f : T → T → (O → Prop) → Prop}
    (h : ∀ B Wd S H t v u w K0 Q, Smo X.K B Wd [.sh t, .sh u] [v, w] H → Same S H → Rep X.K S t v → Rep X.K S u w → (∀ ts' vs', Reps X.K S ts' vs' → Smo X.K B Wd (ts'.map .sh) vs' H) → f t u K0 → (∀ o v H', K0 o → Smo X.K B Wd [o] [v] H' → Q v H') → r [v, w] H Q) : CallT X r (un2 f) := by
  intro B Wd H ts vs K0 Q hs g hQ
  match ts, g with
  | [t, u], g =>
    obtain ⟨S, h1, h2, ⟨v, r0, e, h3, w, r1, e1, h4, h5⟩, back⟩ := Smo.get (ts := [t, u]) hs
    have e0 : r1 = [] := h5
    subst e0
    subst e1
    subst e
    exact h B Wd S H t v u w K0 Q hs h2 h3 h4 back g hQ
  | [], g => exact (show False from g).elim
  | [_], g => exact (show False from g).elim
  | _ :: _ :: _ :: _, g => exact (show False from g).elim
/-- len -/
def lenT : T → (O → Prop) → Prop
  | .tup ts, Q => Q (.sh (.int ts.length))
  | .lst ts, Q => Q (.sh (.int ts.length))
  | .ktp ts, Q => Q (.sh (.int ts.length))
  | .kls ts, Q => Q (.sh (.int ts.length))
  | .dic _ ts, Q => Q (.sh (.int ts.length))
  | .str z, Q => z.length ≤ sizeLine ∧ Q (.sh (.int z.length))
  | _, _ => False
abbrev rLenT (K : PySem.W.Frag) : List V → Hp → VK → Prop := fun xs H Q => (∃ x n, xs = [x] ∧ LenV K x H n ∧ Q (.int n) H) ∨ (∃ a kvs, xs = [V.ref a] ∧ H a = some (.dK kvs) ∧ Q (.int kvs.length) H)
theorem call_lenT : CallR X (.builtin "len") (rLenT X.K) := call_len.or call_lenD
theorem lenT_ok : CallT X (rLenT X.K) (un1 lenT) := CallT.one fun B Wd S H t v K0 Q hs h2 rx back g hQ => by
  have fin : ∀ n : Nat, K0 (.sh (.int n)) → Q (.int n) H := fun n q => hQ _ _ _ q (hs.flat fun _ => rfl)
  cases t <;> first
    | exact (show False from g).elim
    | skip
  · exact .inl ⟨v, _, rfl, by rw [show v = _ from rx]; exact ⟨g.1, rfl⟩, fin _ g.2⟩
  · obtain ⟨a, va, rfl, ha, ra⟩ := rx
    exact .inl ⟨_, va.length, rfl, .inr ⟨va, SqT.of (h2 _ _ ha), rfl⟩, by rw [← ra.len]; exact fin _ g⟩
  · obtain ⟨a, va, rfl, ha, ra⟩ := rx
    exact .inl ⟨_, va.length, rfl, .inl ⟨va, SqL.of (h2 _ _ ha), rfl⟩, by rw [← ra.len]; exact fin _ g⟩
  · obtain ⟨a, va, rfl, ha, ra⟩ := rx
    exact .inl ⟨_, va.length, rfl, .inr ⟨va, SqT.mono h2 ha, rfl⟩, by rw [← ra.len]; exact fin _ g⟩
  · obtain ⟨a, va, rfl, ha, ra⟩ := rx
    exact .inl ⟨_, va.length, rfl, .inl ⟨va, Same.seq h2 ha, rfl⟩, by rw [← ra.len]; exact fin _ g⟩
  · obtain ⟨a, va, rfl, ha, hl, ra⟩ := rx
    refine .inr ⟨a, _, rfl, h2 _ _ ha, ?_⟩
    have e : (List.zip ‹List Key› va).length = (‹List T›).length := by rw [List.length_zip, hl, ra.len, Nat.min_self]
    rw [e]
    exact fin _ g
/-- abs, int, bool, max, min -/
def absT : T → (O → Prop) → Prop
  | .int i, Q => Q (.sh (.int (if i < 0 then -i else i)))
  | _, _ => False
theorem absT_ok : CallT X (fun xs H Q => ∃ i, xs = [.int i] ∧ Q (.int (if i < 0 then -i else i)) H) (un1 absT) := CallT.one fun B Wd S H t v K0 Q hs h2 rx back g hQ => by
  cases t <;> first
    | exact (show False from g).elim
    | exact ⟨_, by rw [show v = _ from rx], hQ _ _ _ g (hs.flat fun _ => rfl)⟩
def toIntT : T → (O → Prop) → Prop
  | .int i, Q => Q (.sh (.int i))
  | .bl b, Q => Q (.sh (.int (if b then 1 else 0)))
  | _, _ => False
theorem toIntT_ok : CallT X (fun xs H Q => (∃ i, xs = [.int i] ∧ Q (.int i) H) ∨ ∃ k, xs = [.bl k] ∧ Q (.int (if k then 1 else 0)) H) (un1 toIntT) := CallT.one fun B Wd S H t v K0 Q hs h2 rx back g hQ => by
  cases t <;> first
    | exact (show False from g).elim
    | skip
  · exact .inr ⟨_, congrArg (fun z => [z]) (show v = _ from rx), hQ _ _ _ g (hs.flat fun _ => rfl)⟩
  · exact .inl ⟨_, congrArg (fun z => [z]) (show v = _ from rx), hQ _ _ _ g (hs.flat fun _ => rfl)⟩
def maxT : T → T → (O → Prop) → Prop
  | .int i, .int j, Q => Q (.sh (.int (if j > i then j else i)))
  | _, _, _ => False
def minT : T → T → (O → Prop) → Prop
  | .int i, .int j, Q => Q (.sh (.int (if j < i then j else i)))
  | _, _, _ => False
theorem maxT_ok : CallT X (fun xs H Q => ∃ i j, xs = [.int i, .int j] ∧ Q (.int (if j > i then j else i)) H) (un2 maxT) := CallT.two fun B Wd S H t v u w K0 Q hs h2 rx ry back g hQ => by
  cases t <;> cases u <;> first
    | exact (show False from g).elim
    | exact ⟨_, _, by rw [show v = _ from rx, show w = _ from ry], hQ _ _ _ g (hs.flat fun _ => rfl)⟩
theorem minT_ok : CallT X (fun xs H Q => ∃ i j, xs = [.int i, .int j] ∧ Q (.int (if j < i then j else i)) H) (un2 minT) := CallT.two fun B Wd S H t v u w K0 Q hs h2 rx ry back g hQ => by
  cases t <;> cases u <;> first
    | exact (show False from g).elim
    | exact ⟨_, _, by rw [show v = _ from rx, show w = _ from ry], hQ _ _ _ g (hs.flat fun _ => rfl)⟩
def strIntT : T → (O → Prop) → Prop
  | .int i, Q => i.natAbs.log2 < 1920 ∧ Q (.sh (.str (toString i)))
  | _, _ => False
theorem strIntT_ok : CallT X (fun xs H Q => ∃ i, xs = [.int i] ∧ i.natAbs.log2 < 1920 ∧ Q (.str (toString i)) H) (un1 strIntT) := CallT.one fun B Wd S H t v K0 Q hs h2 rx back g hQ => by
  cases t <;> first
    | exact (show False from g).elim
    | exact ⟨_, by rw [show v = _ from rx], g.1, hQ _ _ _ g.2 (hs.flat fun _ => rfl)⟩
/-- list(x), tuple(x) -/
def listT : T → (O → Prop) → Prop
  | .tup ts, Q => Q (.lst (ts.map .sh))
  | .lst ts, Q => Q (.lst (ts.map .sh))
  | .ktp ts, Q => Q (.lst (ts.map .sh))
  | .kls ts, Q => Q (.lst (ts.map .sh))
  | _, _ => False
theorem listT_ok : CallT X (fun xs H Q => ∃ p ys, xs = [.ref p] ∧ (SqL X.K H p ys ∨ SqT X.K H p ys) ∧ ∀ l, H l = none → Q (.ref l) (upd H l (.lst ys))) (un1 listT) := CallT.one fun B Wd S H t v K0 Q hs h2 rx back g hQ => by
  cases t <;> first
    | exact (show False from g).elim
    | skip
  · obtain ⟨a, va, rfl, ha, ra⟩ := rx
    exact ⟨a, va, rfl, .inr (SqT.of (h2 _ _ ha)), fun l hl => hQ _ _ _ g ((back _ _ ra).newL hl)⟩
  · obtain ⟨a, va, rfl, ha, ra⟩ := rx
    exact ⟨a, va, rfl, .inl (SqL.of (h2 _ _ ha)), fun l hl => hQ _ _ _ g ((back _ _ ra).newL hl)⟩
  · obtain ⟨a, va, rfl, ha, ra⟩ := rx
    exact ⟨a, va, rfl, .inr (SqT.mono h2 ha), fun l hl => hQ _ _ _ g ((back _ _ ra).newL hl)⟩
  · obtain ⟨a, va, rfl, ha, ra⟩ := rx
    exact ⟨a, va, rfl, .inl (Same.seq h2 ha), fun l hl => hQ _ _ _ g ((back _ _ ra).newL hl)⟩
def tupleT : T → (O → Prop) → Prop
  | .tup ts, Q => Q (.sh (.tup ts))
  | .lst ts, Q => Q (.sh (.tup ts))
  | .kls ts, Q => Q (.sh (.tup ts))
  | _, _ => False
theorem tupleT_ok : CallT X (fun xs H Q => ∃ p ys, xs = [.ref p] ∧ ((SqL X.K H p ys ∧ ∀ l, H l = none → Q (.ref l) (upd H l (.tup ys))) ∨ (SqT X.K H p ys ∧ Q (.ref p) H))) (un1 tupleT) := CallT.one fun B Wd S H t v K0 Q hs h2 rx back g hQ => by
  cases t <;> first
    | exact (show False from g).elim
    | skip
  · obtain ⟨a, va, rfl, ha, ra⟩ := rx
    exact ⟨a, va, rfl, .inr ⟨SqT.of (h2 _ _ ha), hQ _ _ _ g hs⟩⟩
  · obtain ⟨a, va, rfl, ha, ra⟩ := rx
    exact ⟨a, va, rfl, .inl ⟨SqL.of (h2 _ _ ha), fun l hl => hQ _ _ _ g ((back _ _ ra).newS hl fun S r e => ⟨l, _, rfl, e, r⟩)⟩⟩
  · obtain ⟨a, va, rfl, ha, ra⟩ := rx
    exact ⟨a, va, rfl, .inl ⟨Same.seq h2 ha, fun l hl => hQ _ _ _ g ((back _ _ ra).newS hl fun S r e => ⟨l, _, rfl, e, r⟩)⟩⟩
/-- any, all of a list of True, False -/
def T.bls : List T → Option (List Bool)
  | [] => some []
  | .bl b :: ts => (T.bls ts).map fun bs => b :: bs
  | _ => none
theorem Reps.bls {K : PySem.W.Frag} {S : Hp} : ∀ {ts : List T} {vs : List V} {bs : List Bool}, Reps K S ts vs → T.bls ts = some bs → vs = bs.map V.bl
  | [], _, _, h, e => by cases e; exact h
  | t :: ts, _, bs, h, e => by
    obtain ⟨v, r, rfl, h2, h3⟩ := h
    cases t <;> first
      | cases e
      | skip
    have e' : (T.bls ts).map (fun bs => _ :: bs) = some bs := e
    cases q : T.bls ts with
    | none => rw [q] at e'; cases e'
    | some b2 =>
      rw [q] at e'
      cases e'
      rw [show v = _ from h2, Reps.bls h3 q]
      rfl
def boolsT (f : List Bool → Bool) : T → (O → Prop) → Prop
  | .lst ts, Q => (match T.bls ts with
    | some bs => Q (.sh (.bl (f bs)))
    | none => False)
  | _, _ => False
theorem anyT_ok : CallT X (rAny X.K) (un1 (boolsT fun bs => bs.any id)) := CallT.one fun B Wd S H t v K0 Q hs h2 rx back g hQ => by
  cases t <;> first
    | exact (show False from g).elim
    | skip
  rename_i ts
  obtain ⟨a, va, rfl, ha, ra⟩ := rx
  have g' : (match T.bls ts with | some bs => K0 (.sh (.bl (bs.any id))) | none => False) := g
  cases e : T.bls ts with
  | none => rw [e] at g'; exact g'.elim
  | some bs => rw [e] at g'; exact ⟨a, bs, rfl, by rw [← ra.bls e]; exact SqL.of (h2 _ _ ha), hQ _ _ _ g' (hs.flat fun _ => rfl)⟩
theorem allT_ok : CallT X (rAll X.K) (un1 (boolsT fun bs => bs.all id)) := CallT.one fun B Wd S H t v K0 Q hs h2 rx back g hQ => by
  cases t <;> first
    | exact (show False from g).elim
    | skip
  rename_i ts
  obtain ⟨a, va, rfl, ha, ra⟩ := rx
  have g' : (match T.bls ts with | some bs => K0 (.sh (.bl (bs.all id))) | none => False) := g
  cases e : T.bls ts with
  | none => rw [e] at g'; exact g'.elim
  | some bs => rw [e] at g'; exact ⟨a, bs, rfl, by rw [← ra.bls e]; exact SqL.of (h2 _ _ ha), hQ _ _ _ g' (hs.flat fun _ => rfl)⟩
/-- isinstance with built-in classes -/
def T.tn : T → Option String
  | .non => some "NoneType"
  | .bl _ => some "bool"
  | .int _ => some "int"
  | .str _ => some "str"
  | .tup _ => some "tuple"
  | .lst _ => some "list"
  | .dic _ _ => some "dict"
  | .dit _ _ => some "dict"
  | _ => none
inductive Ty7 where | list | tuple | str | int | bool | dict
def Ty7.n : Ty7 → String
  | .list => "list" | .tuple => "tuple" | .str => "str" | .int => "int" | .bool => "bool" | .dict => "dict"
def T.isTy : T → Ty7 → Bool
  | .bl _, .bool => true
  | .bl _, .int => true
  | .int _, .int => true
  | .str _, .str => true
  | .tup _, .tuple => true
  | .lst _, .list => true
  | .dic _ _, .dict => true
  | .dit _ _, .dict => true
  | _, _ => false
def kitN (m : String) (c : Ty7) : Bool := m == c.n || (m == "bool" && c.n == "int")
theorem kit7 : ∀ m ∈ ["NoneType", "bool", "int", "str", "tuple", "list", "dict"], ∀ c ∈ [Ty7.list, .tuple, .str, .int, .bool, .dict], kitB m c.n = some (kitN m c) := by decide +kernel
theorem all7 (c : Ty7) : c ∈ [Ty7.list, .tuple, .str, .int, .bool, .dict] := by cases c <;> simp
theorem kit_all : ∀ (t : T) (m : String), t.tn = some m → ∀ c : Ty7, kitB m c.n = some (t.isTy c) := by
  intro t m h c
  have e : m ∈ ["NoneType", "bool", "int", "str", "tuple", "list", "dict"] ∧ kitN m c = t.isTy c := by
    cases t <;> first
      | (simp [T.tn] at h; done)
      | (cases h; exact ⟨by simp, by cases c <;> rfl⟩)
  rw [kit7 m e.1 c (all7 c), e.2]
theorem Rep.tyx {K : PySem.W.Frag} {S H : Hp} {t : T} {v : V} {m : String} (e : Same S H) (h : Rep K S t v) (hm : t.tn = some m) : TyX K H v (.type m) := by
  cases t <;> first
    | (simp [T.tn] at hm; done)
    | cases hm
  · rw [show v = _ from h]; exact .base .non
  · rw [show v = _ from h]; exact .base (.bl _)
  · rw [show v = _ from h]; exact .base (.int _)
  · rw [show v = _ from h]; exact .base (.str _)
  · obtain ⟨a, vs, rfl, ha, _⟩ := h; exact .base (.tup (e _ _ ha))
  · obtain ⟨a, vs, rfl, ha, _⟩ := h; exact .base (.lst (e _ _ ha))
  · obtain ⟨a, vs, rfl, ha, _⟩ := h; exact .base (.dK (e _ _ ha))
  · obtain ⟨a, vs, rfl, ha, _⟩ := h; exact .base (.dT (e _ _ ha))
/-- isinstance(x, c), isinstance(x, (c1, c2)): the classes as written, the value of any tree -/
def xIsi (cs : List Ty7) (x : XE) : XE := fun ρ K Z => x ρ (fun o ρ' => o.t.tn.isSome = true ∧ K (.sh (.bl (cs.any fun c => o.t.isTy c))) ρ') Z
def tysE : List Ty7 → List V := List.map fun c => .ty c.n
theorem kitAny7 {K : PySem.W.Frag} {t : T} {m : String} (hm : t.tn = some m) : ∀ cs : List Ty7, PySem.W.kitAny K (.type m) (cs.map fun c => Value.type c.n) = some (cs.any fun c => t.isTy c)
  | [] => kitAny_nil
  | c :: cs => by
    refine kitAny_cons (kit_ty (kit_all t m hm c)) (fun e => ?_) fun e => ?_
    · rw [List.any_cons, e, Bool.false_or]
      exact kitAny7 hm cs
    · rw [List.any_cons, e, Bool.true_or]
theorem clsV7 : ∀ cs : List Ty7, Paired ClsV (tysE cs) (cs.map fun c => Value.type c.n)
  | [] => .nil
  | c :: cs => .cons (.ty _) (clsV7 cs)
theorem Sim.ext {K : PySem.W.Frag} {B Wd H : Hp} {os : R} {vs : L2.St} {p : Addr} {ho : HO} (h : Sim K B Wd os vs H) (hp : H p = none) : Sim K B Wd os vs (upd H p ho) := by
  obtain ⟨B', Wd', _, h3, back⟩ := Sim.front (as := []) (va := []) rfl (by simpa using h)
  have h4 : Smo K B' Wd' [.sh (.adr (.ref p))] [.ref p] (upd H p ho) := Smo.newS (ts := []) h3 hp fun S _ _ => rfl
  exact (back [_] [_] _ h4).drop
theorem pe_isi {c : Ty7} {n2 : Str} {p0 p1 : Pos} (hg : Gl X "isinstance") (hm : X.mg "isinstance" = none) (hg2 : Gl X n2) (hm2 : X.mg n2 = none) (hv2 : bootBuiltins n2 = some (.type c.n)) (ha : PEt X W e x)
    (hn2 : n2 ≠ "__name__" := by decide) (hd2 : (n2 == ("__debug__" : Str)) = false := by decide)
    (he : starEach [e, .Name n2 p1] X.env = (false, eval e X.env) :: starEach [.Name n2 p1] X.env := by rfl) (he2 : starEach [.Name n2 p1] X.env = (false, eval (.Name n2 p1) X.env) :: starEach [] X.env := by rfl) (hpl : (backTo pos (starEach [.Name n2 p1] X.env)).any (·.1) = false := by rfl) :
    PEt X W (.Call (.Name "isinstance" p0) [e, .Name n2 p1] [] pos) (xIsi [c] x) :=
  PE.imp (L2.pe_callB call_isi hg hm (by decide +kernel) (L2.pa_cons ha (L2.pa_cons (pe_bltn (v := .ty c.n) hg2 hm2 hv2 rfl hn2 hd2) L2.pa_nil he2) he) (by decide) (by decide) he hpl) fun σ H Q ⟨B, Wd, fr, frv, ρ, K0, Z0, hl, s, hx, hK, hZ⟩ =>
    ⟨B, Wd, fr, frv, ρ, _, Z0, hl, s, hx, fun o ρ1 v H1 k1 s1 => by
      obtain ⟨S, h1, h2, rp⟩ := s1.rep
      obtain ⟨ks, k2⟩ := k1
      cases q : o.t.tn with
      | none => rw [q] at ks; cases ks
      | some m =>
        refine ⟨v, .ty c.n, _, _, o.t.isTy c, rfl, .ty _, rp.tyx h2 q, kit_ty (kit_all _ m q c), hK _ _ _ _ k2 ?_⟩
        have e : [c].any (fun c => o.t.isTy c) = o.t.isTy c := by simp
        rw [e]
        exact s1.drop.push fun _ => rfl, hZ⟩
theorem pe_isi2 {c d : Ty7} {n2 n3 : Str} {k : Nat} {p0 p1 p2 p3 : Pos} (hg : Gl X "isinstance") (hm : X.mg "isinstance" = none) (hg2 : Gl X n2) (hm2 : X.mg n2 = none) (hv2 : bootBuiltins n2 = some (.type c.n)) (hg3 : Gl X n3) (hm3 : X.mg n3 = none) (hv3 : bootBuiltins n3 = some (.type d.n)) (ha : PEt X W e x)
    (hn2 : n2 ≠ "__name__" := by decide) (hd2 : (n2 == ("__debug__" : Str)) = false := by decide) (hn3 : n3 ≠ "__name__" := by decide) (hd3 : (n3 == ("__debug__" : Str)) = false := by decide)
    (he : starEach [e, .Tuple [.Name n2 p1, .Name n3 p2] k p3] X.env = (false, eval e X.env) :: starEach [.Tuple [.Name n2 p1, .Name n3 p2] k p3] X.env := by rfl) (he2 : starEach [.Tuple [.Name n2 p1, .Name n3 p2] k p3] X.env = (false, eval (.Tuple [.Name n2 p1, .Name n3 p2] k p3) X.env) :: starEach [] X.env := by rfl)
    (hpl : (backTo pos (starEach [.Tuple [.Name n2 p1, .Name n3 p2] k p3] X.env)).any (·.1) = false := by rfl)
    (he3 : starEach [.Name n2 p1, .Name n3 p2] X.env = (false, eval (.Name n2 p1) X.env) :: starEach [.Name n3 p2] X.env := by rfl) (he4 : starEach [.Name n3 p2] X.env = (false, eval (.Name n3 p2) X.env) :: starEach [] X.env := by rfl) :
    PEt X W (.Call (.Name "isinstance" p0) [e, .Tuple [.Name n2 p1, .Name n3 p2] k p3] [] pos) (xIsi [c, d] x) :=
  PE.imp (L2.pe_callB call_isiT hg hm (by decide +kernel) (L2.pa_cons ha (L2.pa_cons (L2.pe_tup (L2.pa_cons (pe_bltn (v := .ty c.n) hg2 hm2 hv2 rfl hn2 hd2) (L2.pa_cons (pe_bltn (v := .ty d.n) hg3 hm3 hv3 rfl hn3 hd3) L2.pa_nil he4) he3)) L2.pa_nil he2) he) (by decide) (by decide) he hpl)
    fun σ H Q ⟨B, Wd, fr, frv, ρ, K0, Z0, hl, s, hx, hK, hZ⟩ =>
    ⟨B, Wd, fr, frv, ρ, _, Z0, hl, s, hx, fun o ρ1 v H1 k1 s1 => by
      obtain ⟨S, h1, h2, rp⟩ := s1.rep
      obtain ⟨ks, k2⟩ := k1
      cases q : o.t.tn with
      | none => rw [q] at ks; cases ks
      | some m =>
        refine ⟨by show 2 ≤ sizeLine; decide, fun p hp => ?_⟩
        have e : Same H1 (upd H1 p (.tup [.ty c.n, .ty d.n])) := fun a u q => by rw [upd_ne (ne_of_none q hp)]; exact q
        refine ⟨v, p, _, _, _, _, rfl, upd_same, clsV7 [c, d], rp.tyx (h2.trans e) q, kitAny7 q [c, d], hK _ _ _ _ k2 ?_⟩
        exact (s1.drop.ext hp).push fun _ => rfl, hZ⟩

/-! ### tests -/
def truT : T → (Bool → Prop) → Prop
  | .non, Q => Q false
  | .bl b, Q => Q b
  | .int i, Q => Q (i != 0)
  | .str y, Q => y.length ≤ sizeLine ∧ Q ((y.length : Int) != 0)
  | .tup xs, Q => Q (!xs.isEmpty)
  | .lst xs, Q => Q (!xs.isEmpty)
  | .ktp xs, Q => Q (!xs.isEmpty)
  | .kls xs, Q => Q (!xs.isEmpty)
  | .dic _ xs, Q => Q (!xs.isEmpty)
  | _, _ => False
theorem emp_of {α β : Type} {xs : List α} {ys : List β} (h : xs.length = ys.length) : xs.isEmpty = ys.isEmpty := by
  cases xs <;> cases ys <;> simp at h <;> rfl
theorem Rep.tru {K : PySem.W.Frag} {S H : Hp} (e : Same S H) {t : T} {v : V} (h : Rep K S t v) {Q : Bool → Prop} (g : truT t Q) : ∃ k, TruV K v H k ∧ Q k := by
  cases t <;> first
    | exact (show False from g).elim
    | skip
  · rw [show v = _ from h]; exact ⟨_, rfl, g⟩
  · rw [show v = _ from h]; exact ⟨_, rfl, g⟩
  · rw [show v = _ from h]; exact ⟨_, rfl, g⟩
  · rw [show v = _ from h]; exact ⟨_, ⟨g.1, rfl⟩, g.2⟩
  · obtain ⟨a, va, rfl, ha, ra⟩ := h
    exact ⟨_, .inr (.inl ⟨va, SqT.of (e _ _ ha), by rw [emp_of ra.len]⟩), g⟩
  · obtain ⟨a, va, rfl, ha, ra⟩ := h
    exact ⟨_, .inl ⟨va, SqL.of (e _ _ ha), by rw [emp_of ra.len]⟩, g⟩
  · obtain ⟨a, va, rfl, ha, ra⟩ := h
    exact ⟨_, .inr (.inl ⟨va, SqT.mono e ha, by rw [emp_of ra.len]⟩), g⟩
  · obtain ⟨a, va, rfl, ha, ra⟩ := h
    exact ⟨_, .inl ⟨va, Same.seq e ha, by rw [emp_of ra.len]⟩, g⟩
  · obtain ⟨a, va, rfl, ha, hl, ra⟩ := h
    have q : (List.zip ‹List Key› va).isEmpty = (‹List T›).isEmpty := emp_of (by rw [List.length_zip, hl, ra.len, Nat.min_self])
    exact ⟨_, .inr (.inr ⟨_, e _ _ ha, rfl⟩), by rw [q]; exact g⟩
def xTru (x : XE) : XT := fun ρ K Z => x ρ (fun o ρ' => truT o.t fun b => K b ρ') Z
theorem pt_tru (ha : PEt X W e x) (he : ∀ whole, isTrue e X.env whole = (do let v ← whole; standAt e.pos; holding [v] (truthy v)) := by intro _; rfl) : PTt X W e (xTru x) :=
  PT.imp (pt_truth ha he) fun σ H Q ⟨B, Wd, fr, frv, ρ, K0, Z0, hl, s, hx, hK, hZ⟩ =>
    ⟨B, Wd, fr, frv, ρ, _, Z0, hl, s, hx, fun o ρ1 v H1 k1 s1 => by
      obtain ⟨S, h1, h2, rp⟩ := s1.rep
      obtain ⟨k, t, q⟩ := rp.tru h2 k1
      exact ⟨k, t, hK _ _ _ q s1.drop⟩, hZ⟩
def xAnd (a b : XT) : XT := fun ρ K Z => a ρ (fun c ρ1 => if c = true then b ρ1 K Z else K false ρ1) Z
def xOr (a b : XT) : XT := fun ρ K Z => a ρ (fun c ρ1 => if c = true then K true ρ1 else b ρ1 K Z) Z
def xNot (a : XT) : XT := fun ρ K Z => a ρ (fun c ρ1 => K (!c) ρ1) Z
variable {ya yb : XT}
theorem pw_and1 (ha : PTt X W a ya) : PWt X W (.BoolOp .And [a] pos) ya := L2.pw_and1 ha
theorem pw_or1 (ha : PTt X W a ya) : PWt X W (.BoolOp .Or [a] pos) ya := L2.pw_or1 ha
theorem pw_and (ha : PTt X W a ya) (hb : PWt X W (.BoolOp .And (b :: rest) pos) yb) : PWt X W (.BoolOp .And (a :: b :: rest) pos) (xAnd ya yb) :=
  PW.imp (L2.pw_and ha hb) fun σ H Q ⟨B, Wd, fr, frv, ρ, K0, Z0, hl, s, hx, hK, hZ⟩ =>
    ⟨B, Wd, fr, frv, ρ, _, Z0, hl, s, hx, fun c ρ1 H1 k1 s1 => by
      by_cases hc : c = true
      · rw [if_pos hc] at k1 ⊢
        exact ⟨B, Wd, fr, frv, ρ1, K0, Z0, hl, s1, k1, hK, hZ⟩
      · rw [if_neg hc] at k1 ⊢
        exact hK _ _ _ k1 s1, hZ⟩
theorem pw_or (ha : PTt X W a ya) (hb : PWt X W (.BoolOp .Or (b :: rest) pos) yb) : PWt X W (.BoolOp .Or (a :: b :: rest) pos) (xOr ya yb) :=
  PW.imp (L2.pw_or ha hb) fun σ H Q ⟨B, Wd, fr, frv, ρ, K0, Z0, hl, s, hx, hK, hZ⟩ =>
    ⟨B, Wd, fr, frv, ρ, _, Z0, hl, s, hx, fun c ρ1 H1 k1 s1 => by
      by_cases hc : c = true
      · rw [if_pos hc] at k1 ⊢
        exact hK _ _ _ k1 s1
      · rw [if_neg hc] at k1 ⊢
        exact ⟨B, Wd, fr, frv, ρ1, K0, Z0, hl, s1, k1, hK, hZ⟩, hZ⟩
theorem PWt.pt (h : PWt X W a ya) : PTt X W a ya := PW.pt h
theorem pt_not (ha : PTt X W a ya) : PTt X W (.UnaryOp .Not a pos) (xNot ya) := PT.imp (L2.pt_not ha) fun σ H Q ⟨B, Wd, fr, frv, ρ, K0, Z0, hl, s, hx, hK, hZ⟩ =>
  ⟨B, Wd, fr, frv, ρ, _, Z0, hl, s, hx, fun c ρ1 H1 k1 s1 => hK _ _ _ k1 s1, hZ⟩
/-- a test read off while all is shared -/
def xBorT (a : XT) : XT := fun ρ K Z => a (frzA ρ) (fun b _ => K b ρ) fun C fs ts _ => False
theorem pt_bor (ha : PTt X W a ya) : PTt X W a (xBorT ya) := ⟨fun pins s0 σ H Q I ⟨B, Wd, fr, frv, ρ, K0, Z0, hl, s, hx, hK, hZ⟩ => by
  obtain ⟨S', e1, e2, h1, back⟩ := s.bor
  refine PT.run ha pins s0 σ H Q I ⟨S', Wd, frzA fr, frv, frzA ρ, _, _, by rw [frzA_len]; exact hl, by rw [← frzA_app]; exact h1, hx, fun b ρ' H' k s' => hK _ _ _ k (back _ _ _ s'), fun _ _ _ _ _ _ q => q.elim⟩⟩
/-- a flat value read off while all is shared -/
def xBor (x : XE) : XE := fun ρ K Z => x (frzA ρ) (fun o _ => o.t.flat = true ∧ K (.sh o.t) ρ) fun C fs ts _ => False
theorem pe_bor (ha : PEt X W e x) : PEt X W e (xBor x) := ⟨fun pins s0 σ H Q I ⟨B, Wd, fr, frv, ρ, K0, Z0, hl, s, hx, hK, hZ⟩ => by
  obtain ⟨S', e1, e2, h1, back⟩ := s.bor
  refine PE.run ha pins s0 σ H Q I ⟨S', Wd, frzA fr, frv, frzA ρ, _, _, by rw [frzA_len]; exact hl, by rw [← frzA_app]; exact h1, hx, fun o ρ' v H' k s' => ?_, fun _ _ _ _ _ _ q => q.elim⟩
  obtain ⟨S, _, _, rp⟩ := s'.rep
  exact hK _ _ _ _ k.2 ((back _ _ _ s').push fun S2 => rp.flat k.1 S2)⟩
/-- a if t else b -/
def xIf (t : XT) (a b : XE) : XE := fun ρ K Z => t ρ (fun c ρ1 => if c = true then a ρ1 K Z else b ρ1 K Z) Z
theorem pe_ifExp (hc : PTt X W c ya) (ha : PEt X W a xa) (hb : PEt X W b xb) : PEt X W (.IfExp c a b pos) (xIf ya xa xb) :=
  PE.imp (L2.pe_ifExp hc ha hb) fun σ H Q ⟨B, Wd, fr, frv, ρ, K0, Z0, hl, s, hx, hK, hZ⟩ =>
    ⟨B, Wd, fr, frv, ρ, _, Z0, hl, s, hx, fun c ρ1 H1 k1 s1 => by
      by_cases hc : c = true
      · rw [if_pos hc] at k1 ⊢
        exact ⟨B, Wd, fr, frv, ρ1, K0, Z0, hl, s1, k1, hK, hZ⟩
      · rw [if_neg hc] at k1 ⊢
        exact ⟨B, Wd, fr, frv, ρ1, K0, Z0, hl, s1, k1, hK, hZ⟩, hZ⟩
/-- a or b, a and b as values, by truth -/
def xOrV (a b : XE) : XE := fun ρ K Z => a ρ (fun o ρ1 => truT o.t fun c => if c = true then K o ρ1 else b ρ1 K Z) Z
def xAndV (a b : XE) : XE := fun ρ K Z => a ρ (fun o ρ1 => truT o.t fun c => if c = true then b ρ1 K Z else K o ρ1) Z
theorem pe_orV (ha : PEt X W a xa) (hb : PEt X W (.BoolOp .Or (b :: rest) pos) xb) : PEt X W (.BoolOp .Or (a :: b :: rest) pos) (xOrV xa xb) :=
  PE.imp (pe_orT ha hb) fun σ H Q ⟨B, Wd, fr, frv, ρ, K0, Z0, hl, s, hx, hK, hZ⟩ =>
    ⟨B, Wd, fr, frv, ρ, _, Z0, hl, s, hx, fun o ρ1 v H1 k1 s1 => by
      obtain ⟨S, h1, h2, rp⟩ := s1.rep
      obtain ⟨k, t, q⟩ := rp.tru h2 k1
      refine ⟨k, t, ?_⟩
      by_cases hc : k = true
      · rw [if_pos hc] at q ⊢
        exact hK _ _ _ _ q s1
      · rw [if_neg hc] at q ⊢
        exact ⟨B, Wd, fr, frv, ρ1, K0, Z0, hl, s1.drop, q, hK, hZ⟩, hZ⟩
theorem pe_andV (ha : PEt X W a xa) (hb : PEt X W (.BoolOp .And (b :: rest) pos) xb) : PEt X W (.BoolOp .And (a :: b :: rest) pos) (xAndV xa xb) :=
  PE.imp (pe_andT ha hb) fun σ H Q ⟨B, Wd, fr, frv, ρ, K0, Z0, hl, s, hx, hK, hZ⟩ =>
    ⟨B, Wd, fr, frv, ρ, _, Z0, hl, s, hx, fun o ρ1 v H1 k1 s1 => by
      obtain ⟨S, h1, h2, rp⟩ := s1.rep
      obtain ⟨k, t, q⟩ := rp.tru h2 k1
      refine ⟨k, t, ?_⟩
      by_cases hc : k = true
      · rw [if_pos hc] at q ⊢
        exact ⟨B, Wd, fr, frv, ρ1, K0, Z0, hl, s1.drop, q, hK, hZ⟩
      · rw [if_neg hc] at q ⊢
        exact hK _ _ _ _ q s1, hZ⟩
theorem pe_oneV {op} (h : PEt X W a xa) : PEt X W (.BoolOp op [a] pos) xa := pe_one h
def xNotV (a : XE) : XE := fun ρ K Z => a ρ (fun o ρ1 => truT o.t fun c => K (.sh (.bl (!c))) ρ1) Z
theorem pe_notV (ha : PEt X W a xa) : PEt X W (.UnaryOp .Not a pos) (xNotV xa) :=
  PE.imp (pe_notT ha) fun σ H Q ⟨B, Wd, fr, frv, ρ, K0, Z0, hl, s, hx, hK, hZ⟩ =>
    ⟨B, Wd, fr, frv, ρ, _, Z0, hl, s, hx, fun o ρ1 v H1 k1 s1 => by
      obtain ⟨S, h1, h2, rp⟩ := s1.rep
      obtain ⟨k, t, q⟩ := rp.tru h2 k1
      exact ⟨k, t, hK _ _ _ _ q (s1.drop.push fun _ => rfl)⟩, hZ⟩
def xNeg (a : XE) : XE := fun ρ K Z => a ρ (fun o ρ1 => match o.t with
  | .int i => K (.sh (.int (-i))) ρ1
  | _ => False) Z
theorem pe_neg (ha : PEt X W a xa) : PEt X W (.UnaryOp .USub a pos) (xNeg xa) := PE.imp (pe_un un_neg ha) fun σ H Q ⟨B, Wd, fr, frv, ρ, K0, Z0, hl, s, hx, hK, hZ⟩ =>
  ⟨B, Wd, fr, frv, ρ, _, Z0, hl, s, hx, fun o ρ1 v H1 k1 s1 => by
    obtain ⟨S, h1, h2, rp⟩ := s1.rep
    cases q : o.t <;> rw [q] at k1 rp <;> first
      | exact (show False from k1).elim
      | exact ⟨_, rp, hK _ _ _ _ k1 (s1.drop.push fun _ => rfl)⟩, hZ⟩

/-! ### slices -/
abbrev XO := R → (Option Int → R → Prop) → ZC → Prop
def lO (K : PySem.W.Frag) (W : L2.WX) (x : XO) : TO := fun σ H Q => ∃ B Wd fr frv ρ K0 Z0, fr.length = frv.length ∧ Sim K B Wd (fr ++ ρ) (frv ++ σ) H ∧ x ρ K0 Z0 ∧
  (∀ b ρ' H', K0 b ρ' → Sim K B Wd (fr ++ ρ') (frv ++ σ) H' → Q b H') ∧ ExAt K B Wd fr frv W Z0 σ
def POt (X : Cx) (W : L2.WX) (e : Option Expr) (x : XO) : Prop := PO X e (lO X.K W x)
theorem PO.imp {e : Option Expr} {t t' : TO} (h : PO X e t) (i : ∀ σ H Q, t' σ H Q → t σ H Q) : PO X e t' := ⟨fun pins s σ H Q I q => h.run pins s σ H Q I (i σ H Q q)⟩
def xNoP : XO := fun ρ K _ => K none ρ
def xPart (x : XE) : XO := fun ρ K Z => x ρ (fun o ρ1 => match o.t with
  | .int i => K (some i) ρ1
  | _ => False) Z
theorem po_none : POt X W none xNoP := PO.imp L2.po_none fun σ H Q ⟨B, Wd, fr, frv, ρ, K0, Z0, hl, s, hx, hK, hZ⟩ => hK _ _ _ hx s
theorem po_some (h : PEt X W e x) : POt X W (some e) (xPart x) := PO.imp (L2.po_some h) fun σ H Q ⟨B, Wd, fr, frv, ρ, K0, Z0, hl, s, hx, hK, hZ⟩ =>
  ⟨B, Wd, fr, frv, ρ, _, Z0, hl, s, hx, fun o ρ1 v H1 k1 s1 => by
    obtain ⟨S, h1, h2, rp⟩ := s1.rep
    cases q : o.t <;> rw [q] at k1 rp <;> first
      | exact (show False from k1).elim
      | exact ⟨_, rp, hK _ _ _ k1 s1.drop⟩, hZ⟩
def cutL {α : Type} (xs : List α) (lo hi : Option Int) : List α := (xs.drop (HT.sIx xs.length 0 lo)).take (HT.sIx xs.length xs.length hi - HT.sIx xs.length 0 lo)
def sliceT : T → Option Int → Option Int → (O → Prop) → Prop
  | .tup ts, lo, hi, Q => Q (.sh (.tup (cutL ts lo hi)))
  | .lst ts, lo, hi, Q => Q (.lst ((cutL ts lo hi).map .sh))
  | .kls ts, lo, hi, Q => Q (.lst ((cutL ts lo hi).map .sh))
  | .str z, lo, hi, Q => z.length ≤ sizeLine ∧ Q (.sh (.str (cutS z lo hi)))
  | _, _, _, _ => False
def xSl (x : XE) (l h : XO) : XE := fun ρ K Z => x ρ (fun o ρ1 => l ρ1 (fun lo ρ2 => h ρ2 (fun hi ρ3 => sliceT o.t lo hi fun r => K r ρ3) Z) Z) Z
theorem Reps.drop {K : PySem.W.Frag} {S : Hp} : ∀ {ts : List T} {vs : List V} (n : Nat), Reps K S ts vs → Reps K S (ts.drop n) (vs.drop n)
  | _, _, 0, h => h
  | [], _, _ + 1, h => by rw [show _ = [] from h]; rfl
  | t :: ts, _, n + 1, h => by
    obtain ⟨v, r, rfl, h2, h3⟩ := h
    exact Reps.drop n h3
theorem Reps.take {K : PySem.W.Frag} {S : Hp} : ∀ {ts : List T} {vs : List V} (n : Nat), Reps K S ts vs → Reps K S (ts.take n) (vs.take n)
  | _, _, 0, _ => rfl
  | [], _, _ + 1, h => by rw [show _ = [] from h]; rfl
  | t :: ts, _, n + 1, h => by
    obtain ⟨v, r, rfl, h2, h3⟩ := h
    exact ⟨v, _, rfl, h2, Reps.take n h3⟩
theorem Reps.cut {K : PySem.W.Frag} {S : Hp} {ts : List T} {vs : List V} (h : Reps K S ts vs) (lo hi : Option Int) : Reps K S (cutL ts lo hi) (cutV vs lo hi) := by
  unfold cutL cutV
  rw [h.len]
  exact (h.drop _).take _

theorem Sim.frz1 {K : PySem.W.Frag} {B Wd H : Hp} {os : R} {vs : L2.St} {o : O} {v : V} (h : Sim K B Wd (some o :: os) (some v :: vs) H) : Sim K B Wd (some (.sh o.t) :: os) (some v :: vs) H := by
  obtain ⟨B', Wd', _, h2, back⟩ := Sim.front (as := [o]) (va := [v]) rfl h
  exact back [.sh o.t] [v] _ h2.frz
abbrev rSlAll (K : PySem.W.Frag) : V → Option Int → Option Int → Hp → VK → Prop := fun x lo hi H Q => rSlL K x lo hi H Q ∨ rSlA K x lo hi H Q ∨ rSlS x lo hi H Q
theorem sl_all : SlR X (rSlAll X.K) := sl_list.or (sl_tupA.or sl_str)
theorem cut_whole {α : Type} {xs : List α} {lo hi : Option Int} (h : HT.sIx xs.length 0 lo = 0 ∧ HT.sIx xs.length xs.length hi = xs.length) : cutL xs lo hi = xs := by
  unfold cutL
  rw [h.1, h.2]
  simp
theorem sliceT_ok {B Wd H : Hp} {t : T} {v : V} {lo hi : Option Int} {K0 : O → Prop} {Q : VK} (hs : Smo X.K B Wd [.sh t] [v] H) (g : sliceT t lo hi K0) (hQ : ∀ o v H', K0 o → Smo X.K B Wd [o] [v] H' → Q v H') : rSlAll X.K v lo hi H Q := by
  obtain ⟨S, h1, h2, rx, back⟩ := hs.get1
  cases t <;> first
    | exact (show False from g).elim
    | skip
  · exact .inr (.inr ⟨_, rx, g.1, hQ _ _ _ g.2 (hs.flat fun _ => rfl)⟩)
  · rename_i ts
    obtain ⟨a, va, rfl, ha, ra⟩ := rx
    refine .inr (.inl ⟨a, va, rfl, SqT.of (h2 _ _ ha), fun e => ?_, fun e p hp => hQ _ _ _ g ((back _ _ (ra.cut lo hi)).newS hp fun S r q => ⟨p, _, rfl, q, r⟩)⟩)
    have e' : HT.sIx ts.length 0 lo = 0 ∧ HT.sIx ts.length ts.length hi = ts.length := by rw [ra.len]; exact e
    have g' : K0 (.sh (.tup (cutL ts lo hi))) := g
    rw [cut_whole e'] at g'
    exact hQ _ _ _ g' hs
  · obtain ⟨a, va, rfl, ha, ra⟩ := rx
    exact .inl ⟨a, va, rfl, SqL.of (h2 _ _ ha), fun p hp => hQ _ _ _ g ((back _ _ (ra.cut lo hi)).newL hp)⟩
  · obtain ⟨a, va, rfl, ha, ra⟩ := rx
    exact .inl ⟨a, va, rfl, Same.seq h2 ha, fun p hp => hQ _ _ _ g ((back _ _ (ra.cut lo hi)).newL hp)⟩
theorem pe_slice {lo hi : Option Expr} {l h : XO} {p2 : Pos} (he : PEt X W e x) (hl : POt X W lo l) (hu : POt X W hi h) : PEt X W (.Subscript e (.Slice lo hi none p2) pos) (xSl x l h) :=
  PE.imp (L2.pe_slice sl_all he hl hu) fun σ H Q ⟨B, Wd, fr, frv, ρ, K0, Z0, hlen, s, hx, hK, hZ⟩ =>
    ⟨B, Wd, fr, frv, ρ, _, Z0, hlen, s, hx, fun o ρ1 v H1 k1 s1 => ⟨B, Wd, some (.sh o.t) :: fr, some v :: frv, ρ1, _, Z0, by simp [hlen], s1.frz1, k1, fun vlo ρ2 H2 k2 s2 => ⟨B, Wd, some (.sh o.t) :: fr, some v :: frv, ρ2, _, Z0, by simp [hlen], s2, k2, fun vhi ρ3 H3 k3 s3 => by
      obtain ⟨B', Wd', _, h2, back⟩ := Sim.front (as := [.sh o.t]) (va := [v]) rfl s3
      exact sliceT_ok h2 k3 fun r v' H' kr so => hK _ _ _ _ kr (by simpa using back _ _ _ so), hZ.push⟩, hZ.push⟩, hZ⟩
/-- e[::-1] of a list -/
def revT : T → (O → Prop) → Prop
  | .lst ts, Q => Q (.lst (ts.reverse.map .sh))
  | .kls ts, Q => Q (.lst (ts.reverse.map .sh))
  | _, _ => False
def xRev (x : XE) : XE := fun ρ K Z => x ρ (fun o ρ1 => revT o.t fun r => K r ρ1) Z
theorem Reps.rev {K : PySem.W.Frag} {S : Hp} : ∀ {ts : List T} {vs : List V}, Reps K S ts vs → Reps K S ts.reverse vs.reverse
  | [], _, h => by rw [show _ = [] from h]; rfl
  | t :: ts, _, h => by
    obtain ⟨v, r, rfl, h2, h3⟩ := h
    rw [List.reverse_cons, List.reverse_cons]
    exact (Reps.rev h3).app (reps1 h2)
theorem pe_rev {k : Nat} {p1 p2 p3 : Pos} (he : PEt X W e x) : PEt X W (.Subscript e (.Slice none none (some (.UnaryOp .USub (.Constant (.int 1) k p1) p2)) p3) pos) (xRev x) :=
  PE.imp (pe_revL he) fun σ H Q ⟨B, Wd, fr, frv, ρ, K0, Z0, hlen, s, hx, hK, hZ⟩ =>
    ⟨B, Wd, fr, frv, ρ, _, Z0, hlen, s, hx, fun o ρ1 v H1 k1 s1 => by
      obtain ⟨B', Wd', _, h2, back⟩ := Sim.front (as := [.sh o.t]) (va := [v]) rfl s1.frz1
      obtain ⟨S, e1, e2, rx, bk⟩ := Smo.get1 h2
      cases q : o.t <;> rw [q] at k1 rx <;> first
        | exact (show False from k1).elim
        | skip
      · obtain ⟨a, va, rfl, ha, ra⟩ := rx
        exact ⟨a, va, rfl, SqL.of (e2 _ _ ha), fun p hp => hK _ _ _ _ k1 (by simpa using back _ _ _ ((bk _ _ ra.rev).newL hp))⟩
      · obtain ⟨a, va, rfl, ha, ra⟩ := rx
        exact ⟨a, va, rfl, Same.seq e2 ha, fun p hp => hK _ _ _ _ k1 (by simpa using back _ _ _ ((bk _ _ ra.rev).newL hp))⟩, hZ⟩
end
end TL

namespace TL
open PySem PySem.Spec PyProof.Rows L2
/-! ### targets -/
abbrev XG := O → R → (R → Prop) → Prop
abbrev XGs := List O → R → (R → Prop) → Prop
/-- σ' is σ but at the places sl -/
def But (sl : List Nat) (σ σ' : L2.St) : Prop := σ'.length = σ.length ∧ ∀ i, i ∉ sl → σ'[i]? = σ[i]?
def lG (K : PySem.W.Frag) (sl : List Nat) (g : XG) : TG := fun v σ H Q => ∃ B Wd fr frv ρ o K0, fr.length = frv.length ∧ Sim K B Wd (some o :: (fr ++ ρ)) (some v :: (frv ++ σ)) H ∧ g o ρ K0 ∧ ∀ ρ' σ' H', K0 ρ' → But sl σ σ' → Sim K B Wd (fr ++ ρ') (frv ++ σ') H' → Q σ' H'
def lGs (K : PySem.W.Frag) (sl : List Nat) (g : XGs) : TGs := fun vs σ H Q => ∃ B Wd fr frv ρ os K0, fr.length = frv.length ∧ os.length = vs.length ∧ Sim K B Wd (os.map some ++ (fr ++ ρ)) (vs.map some ++ (frv ++ σ)) H ∧ g os ρ K0 ∧ ∀ ρ' σ' H', K0 ρ' → But sl σ σ' → Sim K B Wd (fr ++ ρ') (frv ++ σ') H' → Q σ' H'
def PGt (X : Cx) (sl : List Nat) (e : Expr) (g : XG) : Prop := PG X e (lG X.K sl g)
def PGst (X : Cx) (sl : List Nat) (es : List Expr) (g : XGs) : Prop := PGs X es (lGs X.K sl g)
theorem PGs.imp {X : Cx} {es : List Expr} {t t' : TGs} (h : PGs X es t) (i : ∀ v σ H Q, t' v σ H Q → t v σ H Q) : PGs X es t' := ⟨fun pins s σ H v u Q I r q => h.run pins s σ H v u Q I r (i v σ H Q q)⟩
def gN (i : Nat) : XG := fun o ρ K => K (ρ.set i (some o))
def gsNil : XGs := fun os ρ K => os = [] ∧ K ρ
def gsCons (g : XG) (gs : XGs) : XGs := fun os ρ K => match os with
  | o :: r => g o ρ fun ρ1 => gs r ρ1 K
  | [] => False
def gT (n : Nat) (gs : XGs) : XG := fun o ρ K => match o.t with
  | .tup ts => ts.length = n ∧ gs (ts.map .sh) ρ K
  | _ => False
section
variable {K : PySem.W.Frag} {B Wd H : Hp}
theorem Sim.setAt {fr ρ : R} {frv σ : L2.St} {o : O} {v : V} (hl : fr.length = frv.length) (h : Sim K B Wd (some o :: (fr ++ ρ)) (some v :: (frv ++ σ)) H) (i : Nat) : Sim K B Wd (fr ++ ρ.set i (some o)) (frv ++ σ.set i (some v)) H := by
  have h1 := h.put (fr.length + i)
  rw [set_app] at h1
  rw [hl, set_app] at h1
  exact h1
end
section
variable {X : Cx} {W : L2.WX} {a b c e : Expr} {es : List Expr} {xa xb x : XE} {y : XA} {pos p : Pos} {g : XG} {gs : XGs}
theorem pg_name (i : Nat) {n : Str} (hN : X.N.Nodup) (hi : X.N[i]? = some n := by rfl) (hx : Loc X.env.scope n := by first | exact Or.inl rfl | exact Or.inr rfl) (hf : X.fn n = true ∨ X.env.scope.names.lookup n = some .local := by first | exact .inl rfl | exact .inr rfl | assumption) : PGt X [i] (.Name n pos) (gN i) :=
  PG.imp (L2.pg_name (i := i) hN hi hx hf) fun v σ H Q ⟨B, Wd, fr, frv, ρ, o, K0, hl, s, hg, hQ⟩ => hQ _ _ _ hg ⟨List.length_set, fun j hj => List.getElem?_set_ne (fun z => hj (by simp [z]))⟩ (s.setAt hl i)
theorem pgs_nil : PGst X [] [] gsNil := PGs.imp L2.pgs_nil fun vs σ H Q ⟨B, Wd, fr, frv, ρ, os, K0, hl, hv, s, hg, hQ⟩ => by
  obtain ⟨rfl, hk⟩ := hg
  have e := List.eq_nil_of_length_eq_zero hv.symm
  subst e
  exact ⟨rfl, hQ _ _ _ hk ⟨rfl, fun _ _ => rfl⟩ (by simpa using s)⟩
theorem Sim.unrot {K : PySem.W.Frag} {B Wd H : Hp} {l1 l2 : R} {v1 v2 : L2.St} {x : Option O} {w : Option V} (hl : l1.length = v1.length) (h : Sim K B Wd (x :: (l1 ++ l2)) (w :: (v1 ++ v2)) H) : Sim K B Wd (l1 ++ x :: l2) (v1 ++ w :: v2) H := by
  refine h.via (fun j => if j < l1.length then j + 1 else if j = l1.length then 0 else j) (fun a b _ _ => ?_) (by have := h.len; simp at this ⊢; omega) fun j o e => ?_
  · repeat' split
    all_goals omega
  · by_cases h1 : j < l1.length
    · simp only [if_pos h1]
      rw [List.getElem?_append_left h1] at e
      refine ⟨by rw [List.getElem?_cons_succ, List.getElem?_append_left h1]; exact e, fun v q => ?_⟩
      rw [List.getElem?_cons_succ, List.getElem?_append_left (by omega)] at q
      rw [List.getElem?_append_left (by omega)]
      exact q
    · rw [List.getElem?_append_right (by omega)] at e
      simp only [if_neg h1]
      by_cases h2 : j = l1.length
      · simp only [if_pos h2]
        rw [show j - l1.length = 0 by omega] at e
        refine ⟨by simpa using e, fun v q => ?_⟩
        rw [List.getElem?_append_right (by omega), show j - v1.length = 0 by omega]
        simpa using q
      · obtain ⟨k, hk⟩ : ∃ k, j = l1.length + k + 1 := ⟨j - l1.length - 1, by omega⟩
        subst hk
        simp only [if_neg h2]
        rw [show l1.length + k + 1 - l1.length = k + 1 by omega] at e
        refine ⟨?_, fun v q => ?_⟩
        · rw [List.getElem?_cons_succ, List.getElem?_append_right (by omega), show l1.length + k - l1.length = k by omega]
          simpa using e
        · rw [List.getElem?_cons_succ, List.getElem?_append_right (by omega)] at q
          rw [List.getElem?_append_right (by omega), show l1.length + k + 1 - v1.length = k + 1 by omega]
          rw [show l1.length + k - v1.length = k by omega] at q
          simpa using q
theorem pgs_cons {sl sm : List Nat} (h1 : PGt X sl e g) (h2 : PGst X sm es gs) (hs : (assignEach (e :: es) X.env).map (·.2) = assign e X.env :: (assignEach es X.env).map (·.2) := by rfl) : PGst X (sl ++ sm) (e :: es) (gsCons g gs) :=
  PGs.imp (L2.pgs_cons h1 h2 hs) fun vs σ H Q ⟨B, Wd, fr, frv, ρ, os, K0, hl, hv, s, hg, hQ⟩ => by
    cases os with
    | nil => exact (show False from hg).elim
    | cons o os =>
      cases vs with
      | nil => simp at hv
      | cons v vs =>
        have hv' : os.length = vs.length := by simpa using hv
        refine ⟨v, vs, rfl, B, Wd, os.map some ++ fr, vs.map some ++ frv, ρ, o, _, by simp [hl, hv'], by simpa [List.append_assoc] using s, hg, fun ρ1 σ1 H1 k1 b1 s1 => ?_⟩
        exact ⟨B, Wd, fr, frv, ρ1, os, K0, hl, hv', by simpa [List.append_assoc] using s1, k1, fun ρ2 σ2 H2 k2 b2 s2 => hQ _ _ _ k2 ⟨b2.1.trans b1.1, fun i hi => (b2.2 i fun z => hi (List.mem_append_right _ z)).trans (b1.2 i fun z => hi (List.mem_append_left _ z))⟩ s2⟩
theorem pg_tup {sl : List Nat} {k n : Nat} (hc : X.calm = true) (h : PGst X sl es gs) (hn : (assignEach es X.env).length = n := by rfl) (hst : (assignEach es X.env).findIdx? (·.1) = none := by rfl) : PGt X sl (.Tuple es k pos) (gT n gs) :=
  PG.imp (L2.pg_tup hc h hn hst) fun v σ H Q ⟨B, Wd, fr, frv, ρ, o, K0, hl, s, hg, hQ⟩ => by
    obtain ⟨B', Wd', _, h2, back⟩ := Sim.front (as := [.sh o.t]) (va := [v]) rfl s.frz1
    obtain ⟨S, e1, e2, rx, bk⟩ := Smo.get1 h2
    unfold gT at hg
    cases q : o.t <;> rw [q] at hg rx <;> first
      | exact (show False from hg).elim
      | skip
    obtain ⟨a, va, rfl, ha, ra⟩ := rx
    have s2 := back _ _ _ (bk _ _ ra)
    refine ⟨a, va, rfl, SqT.of (e2 _ _ ha), by rw [← ra.len]; exact hg.1, B, Wd, fr, frv, ρ, _, K0, hl, by simpa using ra.len, s2, hg.2, hQ⟩

/-! ### statements -/
def xSeq (s t : XS) : XS := fun D ρ => s { D with nx := t D } ρ
def xNext : XS := fun D ρ => D.nx ρ
def xAsg (x : XE) (g : XG) : XS := fun D ρ => x ρ (fun o ρ1 => g o ρ1 D.nx) D.ex
def xExp (x : XE) : XS := fun D ρ => x ρ (fun _ ρ1 => D.nx ρ1) D.ex
def xRet (x : XE) : XS := fun D ρ => x ρ D.rt D.ex
def xRetN : XS := fun D ρ => D.rt (.sh .non) ρ
def xIfS (c : XT) (s t : XS) : XS := fun D ρ => c ρ (fun b ρ1 => if b = true then s D ρ1 else t D ρ1) D.ex
variable {st : Stmt} {rest : List Stmt} {s1 s2 : XS}
theorem pss_nil : PSst X W [] xNext := PSs.imp L2.pss_nil fun D σ H ⟨B, Wd, fr, frv, ρ, D0, hl, s, hx, h1, h2, h3, h4, h5⟩ => h1 _ _ _ hx s
theorem pss_cons (h1 : PSt X W st s1) (h2 : PSst X W rest s2) : PSst X W (st :: rest) (xSeq s1 s2) := PSs.imp (L2.pss_cons h1 h2) fun D σ H ⟨B, Wd, fr, frv, ρ, D0, hl, s, hx, q1, q2, q3, q4, q5⟩ =>
  ⟨B, Wd, fr, frv, ρ, { D0 with nx := s2 D0 }, hl, s, hx, fun ρ1 σ1 H1 k1 e1 => ⟨B, Wd, fr, frv, ρ1, D0, hl, e1, k1, q1, q2, q3, q4, q5⟩, q2, q3, q4, q5⟩
theorem pss_one (h1 : PSt X W st s1) : PSst X W [st] s1 := L2.pss_one h1
theorem ps_pass : PSt X W (.Pass pos) xNext := PS.imp L2.ps_pass fun D σ H ⟨B, Wd, fr, frv, ρ, D0, hl, s, hx, h1, h2, h3, h4, h5⟩ => h1 _ _ _ hx s
theorem ps_break : PSt X W (.Break pos) (fun D ρ => D.bk ρ) := PS.imp L2.ps_break fun D σ H ⟨B, Wd, fr, frv, ρ, D0, hl, s, hx, h1, h2, h3, h4, h5⟩ => h2 _ _ _ hx s
theorem ps_continue : PSt X W (.Continue pos) (fun D ρ => D.ct ρ) := PS.imp L2.ps_continue fun D σ H ⟨B, Wd, fr, frv, ρ, D0, hl, s, hx, h1, h2, h3, h4, h5⟩ => h3 _ _ _ hx s
theorem ps_doc {z j p1} : PSt X W (.Expr (.Constant (.str z) j p1) pos) xNext := PS.imp L2.ps_doc fun D σ H ⟨B, Wd, fr, frv, ρ, D0, hl, s, hx, h1, h2, h3, h4, h5⟩ => h1 _ _ _ hx s
theorem ps_set (i : Nat) {n : Str} {p1 : Pos} (hN : X.N.Nodup) (he : PEt X W e x) (hi : X.N[i]? = some n := by rfl) (hx : Loc X.env.scope n := by first | exact Or.inl rfl | exact Or.inr rfl) (hs : swapsWith e (some (.Name n p1)) pos.line X.env = pure false := by rfl)
    (hf : X.fn n = true ∨ X.env.scope.names.lookup n = some .local := by first | exact .inl rfl | exact .inr rfl | assumption) : PSt X W (.Assign [.Name n p1] e pos) (xAsg x (gN i)) :=
  PS.imp (L2.ps_set hN hi hx he hs hf) fun D σ H ⟨B, Wd, fr, frv, ρ, D0, hl, s, hx, q1, q2, q3, q4, q5⟩ =>
    ⟨B, Wd, fr, frv, ρ, _, _, hl, s, hx, fun o ρ1 v H1 k1 e1 => q1 _ _ _ k1 (e1.setAt hl i), q5 σ⟩
theorem ps_asg {sl : List Nat} {tg : Expr} (he : PEt X W e x) (hg : PGt X sl tg g) (hs : swapsWithSole [tg] e pos.line X.env = pure false := by rfl) (hw : swappedStores [tg] e X.env = pure none := by rfl)
    (h1 : (assignEach [tg] X.env).map (·.2) = [assign tg X.env] := by rfl) : PSt X W (.Assign [tg] e pos) (xAsg x g) :=
  PS.imp (L2.ps_asg he hg hs hw h1) fun D σ H ⟨B, Wd, fr, frv, ρ, D0, hl, s, hx, q1, q2, q3, q4, q5⟩ =>
    ⟨B, Wd, fr, frv, ρ, _, _, hl, s, hx, fun o ρ1 v H1 k1 e1 => ⟨B, Wd, fr, frv, ρ1, o, _, hl, e1, k1, fun ρ' σ' H' k' _ s' => q1 ρ' σ' H' k' s'⟩, q5 σ⟩
theorem ps_expr (he : PEt X W e x) (hs : swapsWith e none pos.line X.env = pure false := by rfl) : PSt X W (.Expr e pos) (xExp x) :=
  PS.imp (L2.ps_expr he hs) fun D σ H ⟨B, Wd, fr, frv, ρ, D0, hl, s, hx, q1, q2, q3, q4, q5⟩ => ⟨B, Wd, fr, frv, ρ, _, _, hl, s, hx, fun o ρ1 v H1 k1 e1 => q1 _ _ _ k1 e1.drop, q5 σ⟩
theorem ps_ret (he : PEt X W e x) : PSt X W (.Return (some e) pos) (xRet x) := PS.imp (L2.ps_ret he) fun D σ H ⟨B, Wd, fr, frv, ρ, D0, hl, s, hx, q1, q2, q3, q4, q5⟩ =>
  ⟨B, Wd, fr, frv, ρ, _, _, hl, s, hx, fun o ρ1 v H1 k1 e1 => q4 _ _ _ _ _ k1 e1, q5 σ⟩
theorem ps_retN : PSt X W (.Return none pos) xRetN := PS.imp L2.ps_retN fun D σ H ⟨B, Wd, fr, frv, ρ, D0, hl, s, hx, q1, q2, q3, q4, q5⟩ => q4 _ _ _ _ _ hx (s.push fun _ => rfl)
theorem ps_if {l r : List Stmt} {xc : XT} (hc : PTt X W c xc) (ha : PSst X W l s1) (hb : PSst X W r s2) : PSt X W (.If c l r pos) (xIfS xc s1 s2) :=
  PS.imp (L2.ps_if hc ha hb) fun D σ H ⟨B, Wd, fr, frv, ρ, D0, hl, s, hx, q1, q2, q3, q4, q5⟩ =>
    ⟨B, Wd, fr, frv, ρ, _, _, hl, s, hx, fun b ρ1 H1 k1 e1 => by
      by_cases hb : b = true
      · rw [if_pos hb] at k1 ⊢
        exact ⟨B, Wd, fr, frv, ρ1, D0, hl, e1, k1, q1, q2, q3, q4, q5⟩
      · rw [if_neg hb] at k1 ⊢
        exact ⟨B, Wd, fr, frv, ρ1, D0, hl, e1, k1, q1, q2, q3, q4, q5⟩, q5 σ⟩
theorem ps_never : PSt X W st (fun _ _ => False) := PS.imp L2.ps_never fun D σ H ⟨B, Wd, fr, frv, ρ, D0, hl, s, hx, _⟩ => hx
theorem pss_never : PSst X W rest (fun _ _ => False) := PSs.imp L2.pss_never fun D σ H ⟨B, Wd, fr, frv, ρ, D0, hl, s, hx, _⟩ => hx

/-! ### while -/
/-- I: what holds ahead of each test, with a number that falls -/
def xWhile (c : XT) (b : XS) : XS := fun D ρ => ∃ I : Nat → R → Prop, (∃ m, I m ρ) ∧ ∀ m ρ, I m ρ → c ρ (fun k ρ1 => if k = true then b { D with nx := fun ρ' => ∃ m', m' < m ∧ I m' ρ', ct := fun ρ' => ∃ m', m' < m ∧ I m' ρ', bk := D.nx } ρ1 else D.nx ρ1) D.ex
theorem ps_while {body : List Stmt} {xc : XT} {xb : XS} (hp : PassesOwn (model X.prog X.w) X.A X.env X.xe) (hc : PTt X W c xc) (hb : PSst X W body xb) : PSt X W (.While c body [] pos) (xWhile xc xb) :=
  PS.imp (L2.ps_while hp hc hb) fun D σ H ⟨B, Wd, fr, frv, ρ, D0, hl, s, hx, q1, q2, q3, q4, q5⟩ => by
    obtain ⟨I, ⟨m0, i0⟩, turn⟩ := hx
    refine ⟨fun m σ H => ∃ ρ, Sim X.K B Wd (fr ++ ρ) (frv ++ σ) H ∧ I m ρ, ⟨m0, ρ, s, i0⟩, fun m σ H ⟨ρ, s, i⟩ => ⟨B, Wd, fr, frv, ρ, _, _, hl, s, turn m ρ i, fun k ρ1 H1 k1 e1 => ?_, q5 σ⟩⟩
    by_cases hk : k = true
    · rw [if_pos hk] at k1 ⊢
      exact ⟨fun σ' H' => ∃ m', m' < m ∧ ∃ ρ, Sim X.K B Wd (fr ++ ρ) (frv ++ σ') H' ∧ I m' ρ, fun σ' H' h => h, B, Wd, fr, frv, ρ1, _, hl, e1, k1, fun ρ' σ' H' ⟨m', hm, i'⟩ s' => ⟨m', hm, ρ', s', i'⟩, q1, fun ρ' σ' H' ⟨m', hm, i'⟩ s' => ⟨m', hm, ρ', s', i'⟩, q4, q5⟩
    · rw [if_neg hk] at k1 ⊢
      exact q1 _ _ _ k1 e1
theorem while_I {xc : XT} {xb : XS} {D : ED} {ρ : R} (I : R → Prop) (μ : R → Nat) (h0 : I ρ)
    (h : ∀ ρ, I ρ → xc ρ (fun k ρ1 => if k = true then xb { D with nx := fun ρ' => ∃ m', m' < μ ρ ∧ (I ρ' ∧ μ ρ' = m'), ct := fun ρ' => ∃ m', m' < μ ρ ∧ (I ρ' ∧ μ ρ' = m'), bk := D.nx } ρ1 else D.nx ρ1) D.ex) : xWhile xc xb D ρ :=
  ⟨fun m ρ => I ρ ∧ μ ρ = m, ⟨_, h0, rfl⟩, fun m ρ ⟨i, e⟩ => by subst e; exact h ρ i⟩
end
end TL

namespace TL
open PySem PySem.Spec PyProof.Rows L2
/-! ### what is walked: a list of trees -/
abbrev XI := R → (List T → R → Prop) → ZC → Prop
/-- over every heap in which S stands the walk goes through ts -/
def IterOk (K : PySem.W.Frag) (Wd S : Hp) (J : It) (ts : List T) : Prop := ∃ (G : Hp → Prop) (Y : Nat → Hp → V → Hp → Prop), Walk J ts.length G Y ∧ (∀ H, Same S H → G H) ∧
  ∀ i t H v H2 B' os vs, ts[i]? = some t → Y i H v H2 → Same S B' → Sim K B' Wd os vs H → Sim K B' Wd (some (.sh t) :: os) (some v :: vs) H2
def lI (K : PySem.W.Frag) (W : L2.WX) (x : XI) : TI := fun σ H Rr => ∃ B Wd fr frv ρ K0 Z0, fr.length = frv.length ∧ Sim K B Wd (fr ++ ρ) (frv ++ σ) H ∧ x ρ K0 Z0 ∧
  (∀ ts ρ' S J H', K0 ts ρ' → Same B S → Sim K S Wd (fr ++ ρ') (frv ++ σ) H' → IterOk K Wd S J ts → Rr J H') ∧ ExAt K B Wd fr frv W Z0 σ
def PIt (X : Cx) (W : L2.WX) (tg e : Expr) (x : XI) : Prop := PI X tg e (lI X.K W x)
theorem PI.imp {X : Cx} {tg e : Expr} {t t' : TI} (h : PI X tg e t) (i : ∀ σ H Q, t' σ H Q → t σ H Q) : PI X tg e t' := ⟨fun pins s σ H Q I q => h.run pins s σ H Q I (i σ H Q q)⟩
/-- the trees of a walked value -/
def T.its : T → Option (List T)
  | .lst ts => some ts
  | .tup ts => some ts
  | .ktp ts => some ts
  | .kls ts => some ts
  | .str z => some (z.cps.toList.map fun c => .str ⟨#[c]⟩)
  | _ => none
def xSeqI (x : XE) : XI := fun ρ K Z => x ρ (fun o ρ1 => match o.t.its with
  | some ts => K ts ρ1
  | none => False) Z
section
variable {K : PySem.W.Frag} {B Wd S H : Hp} {ts : List T} {vs : List V} {a : Addr}
theorem Reps.push {os : R} {us : L2.St} {i : Nat} {t : T} {v : V} (r : Reps K S ts vs) (e : ts[i]? = some t) (ev : vs[i]? = some v) {B' : Hp} (b : Same S B') (h : Sim K B' Wd os us H) : Sim K B' Wd (some (.sh t) :: os) (some v :: us) H := by
  obtain ⟨S', fp, s⟩ := h
  obtain ⟨w, e1, e2⟩ := r.get e
  rw [ev] at e1
  cases e1
  exact ⟨S', _, s.push (e2.mono (b.trans s.bs))⟩
theorem iter_list (h : SqL K S a vs) (r : Reps K S ts vs) : IterOk K Wd S (Itl K a) ts := by
  refine ⟨_, _, by rw [r.len]; exact walk_list, fun H e => e.seq h, fun i t H v H2 B' os us et y b s => ?_⟩
  obtain ⟨rfl, ev⟩ := y
  exact r.push et ev b s
theorem iter_tup (h : SqT K S a vs) (r : Reps K S ts vs) : IterOk K Wd S (Itt K a) ts := by
  refine ⟨_, _, by rw [r.len]; exact walk_tup, fun H e => SqT.mono e h, fun i t H v H2 B' os us et y b s => ?_⟩
  obtain ⟨rfl, ev⟩ := y
  exact r.push et ev b s
theorem iter_str {z : Str} : IterOk K Wd S (Its z) (z.cps.toList.map fun c => .str ⟨#[c]⟩) := by
  refine ⟨_, _, by rw [List.length_map, Array.length_toList]; exact walk_str, fun H e => trivial, fun i t H v H2 B' os us et y b s => ?_⟩
  obtain ⟨rfl, c, ec, rfl⟩ := y
  rw [List.getElem?_map, Array.getElem?_toList, ec] at et
  cases et
  exact s.push fun _ => rfl
def rangeL (lo : Int) (n : Nat) : List T := (List.range n).map fun (i : Nat) => .int (lo + i)
theorem iter_range {lo : Int} {n : Nat} : IterOk K Wd S (Itr lo n) (rangeL lo n) := by
  refine ⟨_, _, by unfold rangeL; rw [List.length_map, List.length_range]; exact walk_range, fun H e => trivial, fun i t H v H2 B' os us et y b s => ?_⟩
  obtain ⟨rfl, rfl⟩ := y
  unfold rangeL at et
  rw [List.getElem?_map] at et
  cases q : (List.range n)[i]? with
  | none => rw [q] at et; cases et
  | some j =>
    rw [q] at et
    cases et
    have e2 := (List.getElem?_eq_some_iff.mp q)
    obtain ⟨h1, h2⟩ := e2
    rw [List.getElem_range] at h2
    subst h2
    exact s.push fun _ => rfl
def rangeC (lo c : Int) (n : Nat) : List T := (List.range n).map fun (i : Nat) => .int (lo + (i : Int) * c)
theorem iter_rangeC {lo c : Int} {n : Nat} : IterOk K Wd S (Itc lo c n) (rangeC lo c n) := by
  refine ⟨_, _, by unfold rangeC; rw [List.length_map, List.length_range]; exact walk_rangeC, fun H e => trivial, fun i t H v H2 B' os us et y b s => ?_⟩
  obtain ⟨rfl, rfl⟩ := y
  unfold rangeC at et
  rw [List.getElem?_map] at et
  cases q : (List.range n)[i]? with
  | none => rw [q] at et; cases et
  | some j =>
    rw [q] at et
    cases et
    have e2 := (List.getElem?_eq_some_iff.mp q)
    obtain ⟨h1, h2⟩ := e2
    rw [List.getElem_range] at h2
    subst h2
    exact s.push fun _ => rfl
/-- a new pair of two shared values -/
theorem Sim.pair {os : R} {us : L2.St} {t u : T} {v w : V} {p : Addr} {B' : Hp} (h : Sim K B' Wd os us H) (b : Same S B') (r1 : Rep K S t v) (r2 : Rep K S u w) (hp : H p = none) :
    Sim K B' Wd (some (.sh (.tup [t, u])) :: os) (some (.ref p) :: us) (upd H p (.tup [v, w])) := by
  obtain ⟨S', fp, s⟩ := h
  have h2 : Sim K B' Wd ([O.sh t, .sh u].map some ++ os) ([v, w].map some ++ us) H := by
    have := (s.push (r2.mono (b.trans s.bs))).push (r1.mono (b.trans s.bs))
    exact ⟨_, _, this⟩
  obtain ⟨B2, Wd2, _, h3, back⟩ := Sim.front (as := [.sh t, .sh u]) (va := [v, w]) rfl h2
  exact back [_] [_] _ (h3.newT hp)
def enumL : Nat → List T → List T
  | _, [] => []
  | k, t :: ts => .tup [.int k, t] :: enumL (k + 1) ts
theorem enumL_len : ∀ (k : Nat) (ts : List T), (enumL k ts).length = ts.length
  | _, [] => rfl
  | k, t :: ts => by simp [enumL, enumL_len (k + 1) ts]
theorem enumL_get : ∀ (k : Nat) (ts : List T) (i : Nat), (enumL k ts)[i]? = ts[i]?.map fun t => .tup [.int ((k + i : Nat) : Int), t]
  | _, [], i => by simp [enumL]
  | k, t :: ts, 0 => by simp [enumL]
  | k, t :: ts, i + 1 => by
    simp only [enumL, List.getElem?_cons_succ, enumL_get (k + 1) ts i]
    rw [show k + 1 + i = k + (i + 1) by omega]
theorem iter_enum (h : SqL K S a vs) (r : Reps K S ts vs) : IterOk K Wd S (Ite K a) (enumL 0 ts) := by
  refine ⟨_, _, by rw [enumL_len, r.len]; exact walk_enum, fun H e => e.seq h, fun i t H v H2 B' os us et y b s => ?_⟩
  obtain ⟨p, x, w, rfl, hp, rfl, e1, e2⟩ := y
  rw [enumL_get] at et
  cases q : ts[i]? with
  | none => rw [q] at et; cases et
  | some u =>
    rw [q] at et
    cases et
    cases e1
    obtain ⟨w', h1, h2⟩ := r.get q
    rw [show vs[i]? = some w from e2] at h1
    cases h1
    rw [Nat.zero_add]
    exact Sim.pair s b (show Rep K S (.int (i : Nat)) (.int (i : Nat)) from rfl) h2 hp
def zipL (xs ys : List T) : List T := (xs.zip ys).map fun p => .tup [p.1, p.2]
theorem iter_zip {b : Addr} {us : List T} {ws : List V} (h : SqL K S a vs) (h' : SqL K S b ws) (r : Reps K S ts vs) (r' : Reps K S us ws) : IterOk K Wd S (Itz K a b) (zipL ts us) := by
  refine ⟨_, _, walk_zip (xs := vs) (ys := ws) (by unfold zipL; rw [List.length_map, List.length_zip, r.len, r'.len]), fun H e => ⟨e.seq h, e.seq h'⟩, fun i t H v H2 B' os oo et y bb s => ?_⟩
  obtain ⟨p, x, w, rfl, hp, rfl, e1, e2⟩ := y
  unfold zipL at et
  rw [List.getElem?_map] at et
  cases q : (ts.zip us)[i]? with
  | none => rw [q] at et; cases et
  | some u =>
    rw [q] at et
    cases et
    obtain ⟨q1, q2⟩ := List.getElem?_zip_eq_some.mp q
    obtain ⟨x', g1, g2⟩ := r.get q1
    obtain ⟨w', g3, g4⟩ := r'.get q2
    rw [show vs[i]? = some x from e1] at g1
    rw [show ws[i]? = some w from e2] at g3
    cases g1
    cases g3
    exact Sim.pair s bb g2 g4 hp
end

section
variable {X : Cx} {W : L2.WX} {a b c e tg : Expr} {es : List Expr} {xa xb x : XE} {y : XA} {pos p : Pos} {g : XG} {te : TE}
/-- a list, a tuple, a text -/
theorem pi_val (he : PE X e te) : PI X tg e (fun σ H Rr => te σ H fun v H1 => (∃ a, v = .ref a ∧ (∃ xs, SqL X.K H1 a xs) ∧ Rr (Itl X.K a) H1) ∨ (∃ a, v = .ref a ∧ (∃ xs, SqT X.K H1 a xs) ∧ Rr (Itt X.K a) H1) ∨ ∃ z, v = .str z ∧ Rr (Its z) H1) := by
  refine ⟨fun pins s0 σ H Rr I0 hq => thn (he.run pins s0 σ H _ I0 hq) fun u s2 he2 => ?_⟩
  obtain ⟨v, H2, I2, rv, alt⟩ := he2
  rcases alt with ⟨a, rfl, ⟨ys, hy⟩, fin⟩ | ⟨a, rfl, ⟨ys, hy⟩, fin⟩ | ⟨z, rfl, fin⟩
  · obtain rfl : u = Value.ref a := rv
    obtain ⟨us, _, pl, _⟩ := I2.list hy
    exact wpAny_pyIter_list pl.isList (pi_one (tk := s2.toks) I2 _ (turn_list a _) ⟨_, Heap.get?_push_size _ rfl, rfl, rfl⟩ fin)
  · obtain rfl : u = Value.ref a := rv
    obtain ⟨us, _, pt, _⟩ := I2.tuple hy
    exact wpAny_pyIter_tuple (show s2.heap.IsTuple a us.toArray from pt) (pi_one (tk := s2.toks) I2 _ (turn_tuple a _) ⟨_, Heap.get?_push_size _ rfl, rfl, rfl⟩ fin)
  · obtain ⟨tk, rfl⟩ := rv
    cases wide : z.cps.all (· < 128)
    · exact wpAny_pyIter_wide wide (pi_one (tk := s2.toks) I2 _ (turn_str _ z tk "str_iterator" (.inr rfl)) ⟨_, Heap.get?_push_size _ rfl, rfl, rfl⟩ fin)
    · exact wpAny_pyIter_ascii wide (pi_one (tk := s2.toks) I2 _ (turn_str _ z tk "str_ascii_iterator" (.inl rfl)) ⟨_, Heap.get?_push_size _ rfl, rfl, rfl⟩ fin)
theorem pi_seq (he : PEt X W e x) : PIt X W tg e (xSeqI x) := PI.imp (pi_val he) fun σ H Q ⟨B, Wd, fr, frv, ρ, K0, Z0, hl, s, hx, hK, hZ⟩ =>
  ⟨B, Wd, fr, frv, ρ, _, Z0, hl, s, hx, fun o ρ1 v H1 k1 s1 => by
    obtain ⟨S, e1, e2, s2⟩ := s1.frz1.self
    obtain ⟨S3, e3, e4, rp⟩ := s2.rep
    have rp' : Rep X.K S3 o.t v := rp
    obtain ⟨S4, e5, e6, s4⟩ := s1.frz1.self
    obtain ⟨S5, fp5, s5⟩ := s4
    obtain ⟨v', ev, rv⟩ := s5.own 0 (.sh o.t) rfl
    cases ev
    have r0 : Rep X.K S5 o.t v := rv.2
    have s6 : Sim X.K S5 Wd (fr ++ ρ1) (frv ++ σ) H1 := (Sim.drop ⟨S5, fp5, s5.self⟩)
    have b6 : Same B S5 := e5.trans s5.bs
    cases q : o.t with
    | lst ts =>
      rw [q] at k1 r0
      obtain ⟨a, va, rfl, ha, ra⟩ := r0
      exact .inl ⟨a, rfl, ⟨va, SqL.of (s5.sh _ _ ha)⟩, hK ts ρ1 S5 _ H1 k1 b6 s6 (iter_list (SqL.of ha) ra)⟩
    | kls ts =>
      rw [q] at k1 r0
      obtain ⟨a, va, rfl, ha, ra⟩ := r0
      exact .inl ⟨a, rfl, ⟨va, Same.seq s5.sh ha⟩, hK ts ρ1 S5 _ H1 k1 b6 s6 (iter_list ha ra)⟩
    | tup ts =>
      rw [q] at k1 r0
      obtain ⟨a, va, rfl, ha, ra⟩ := r0
      exact .inr (.inl ⟨a, rfl, ⟨va, SqT.of (s5.sh _ _ ha)⟩, hK ts ρ1 S5 _ H1 k1 b6 s6 (iter_tup (SqT.of ha) ra)⟩)
    | ktp ts =>
      rw [q] at k1 r0
      obtain ⟨a, va, rfl, ha, ra⟩ := r0
      exact .inr (.inl ⟨a, rfl, ⟨va, SqT.mono s5.sh ha⟩, hK ts ρ1 S5 _ H1 k1 b6 s6 (iter_tup ha ra)⟩)
    | str z =>
      rw [q] at k1 r0
      exact .inr (.inr ⟨z, r0, hK _ ρ1 S5 _ H1 k1 b6 s6 iter_str⟩)
    | _ => rw [q] at k1; exact (show False from k1).elim, hZ⟩
/-- range -/
def xRng1 (y : XA) : XI := fun ρ K Z => y ρ (fun os ρ1 => match O.ts os with
  | [.int j] => (-(2 ^ 62) ≤ j ∧ j < 2 ^ 62) ∧ K (rangeL 0 j.toNat) ρ1
  | _ => False) Z
def xRng2 (y : XA) : XI := fun ρ K Z => y ρ (fun os ρ1 => match O.ts os with
  | [.int i, .int j] => (-(2 ^ 62) ≤ i ∧ i < 2 ^ 62 ∧ -(2 ^ 62) ≤ j ∧ j < 2 ^ 62) ∧ K (rangeL i (j - i).toNat) ρ1
  | _ => False) Z
theorem stack_reps {K : PySem.W.Frag} {B Wd H : Hp} {fr : R} {frv : L2.St} {os : List O} {vs : List V} (hle : os.length = vs.length) (h : Sim K B Wd (os.map some ++ fr) (vs.map some ++ frv) H) :
    ∃ S, Same B S ∧ Same S H ∧ Reps K S (O.ts os) vs ∧ Sim K S Wd fr frv H := by
  obtain ⟨B', Wd', hB, h2, back⟩ := Sim.front hle h
  have h3 := back _ _ _ h2.frz
  obtain ⟨S, fp, s⟩ := h3
  have hl2 : (O.ts os).length = vs.length := by rw [← hle, O.ts_map, List.length_map]
  have hl3 := s.len
  refine ⟨S, s.bs, s.sh, Reps.of hl2 fun i t v et ev => ?_, ?_⟩
  · obtain ⟨w, e1, e2⟩ := s.own i (.sh t) (by
      rw [List.getElem?_append_left (by simpa using (List.getElem?_eq_some_iff.mp et).1), List.getElem?_map, List.getElem?_map, et]
      rfl)
    rw [List.getElem?_append_left (by simpa using (List.getElem?_eq_some_iff.mp ev).1), List.getElem?_map, ev] at e1
    cases e1
    exact e2.2
  · have h4 : Sim K S Wd (((O.ts os).map .sh).map some ++ fr) (vs.map some ++ frv) H := ⟨S, fp, s.self⟩
    refine h4.via (fun i => (O.ts os).length + i) (fun i j _ _ => by omega) (by simp at hl3; omega) fun i o e => ⟨?_, fun v q => ?_⟩
    · rw [List.getElem?_append_right (by simp)]
      rw [List.length_map, List.length_map, Nat.add_sub_cancel_left]
      exact e
    · rw [List.getElem?_append_right (by simp; omega)] at q
      rw [List.length_map, hl2, Nat.add_sub_cancel_left] at q
      exact q
theorem pi_range1 (hg : Gl X "range") (hm : X.mg "range" = none) (ha : PAt X W [a] y) (hs : starEach [a] X.env = [(false, eval a X.env)] := by rfl) : PIt X W tg (.Call (.Name "range" p) [a] [] pos) (xRng1 y) :=
  PI.imp (L2.pi_range1 hg hm ha hs) fun σ H Q ⟨B, Wd, fr, frv, ρ, K0, Z0, hl, s, hx, hK, hZ⟩ => ⟨B, Wd, fr, frv, ρ, _, Z0, hl, s, hx, fun os ρ1 vs H1 hle k1 s1 => by
    obtain ⟨S, e1, e2, rp, s2⟩ := stack_reps hle s1
    split at k1
    · rename_i j q
      rw [q] at rp
      obtain ⟨v, r, rfl, rv, rr⟩ := rp
      have rr' : r = [] := rr
      subst rr'
      exact ⟨j, congrArg (fun z => [z]) (show v = .int j from rv), k1.1.1, k1.1.2, hK _ _ _ _ _ k1.2 e1 s2 iter_range⟩
    · exact k1.elim, hZ⟩
theorem pi_range2 (hg : Gl X "range") (hm : X.mg "range" = none) (ha : PAt X W [a, b] y) (hs : starEach [a, b] X.env = [(false, eval a X.env), (false, eval b X.env)] := by rfl) (hs2 : starEach [b] X.env = [(false, eval b X.env)] := by rfl) : PIt X W tg (.Call (.Name "range" p) [a, b] [] pos) (xRng2 y) :=
  PI.imp (L2.pi_range2 hg hm ha hs hs2) fun σ H Q ⟨B, Wd, fr, frv, ρ, K0, Z0, hl, s, hx, hK, hZ⟩ => ⟨B, Wd, fr, frv, ρ, _, Z0, hl, s, hx, fun os ρ1 vs H1 hle k1 s1 => by
    obtain ⟨S, e1, e2, rp, s2⟩ := stack_reps hle s1
    split at k1
    · rename_i i j q
      rw [q] at rp
      obtain ⟨v, r, rfl, rv, w, r2, rfl, rw2, rr⟩ := rp
      have rr' : r2 = [] := rr
      subst rr'
      exact ⟨i, j, by rw [show v = .int i from rv, show w = .int j from rw2], k1.1, hK _ _ _ _ _ k1.2 e1 s2 iter_range⟩
    · exact k1.elim, hZ⟩
/-- enumerate of a list -/
def xEnum (y : XA) : XI := fun ρ K Z => y ρ (fun os ρ1 => match O.ts os with
  | [.lst ts] => K (enumL 0 ts) ρ1
  | [.kls ts] => K (enumL 0 ts) ρ1
  | _ => False) Z
theorem pi_enum {tpos : Pos} {elts : List Expr} {kk : Nat} (hg : Gl X "enumerate") (hm : X.mg "enumerate" = none) (ha : PAt X W [e] y) (hs : starEach [e] X.env = [(false, eval e X.env)] := by rfl) : PIt X W (.Tuple elts kk tpos) (.Call (.Name "enumerate" p) [e] [] pos) (xEnum y) :=
  PI.imp (L2.pi_enum hg hm ha hs) fun σ H Q ⟨B, Wd, fr, frv, ρ, K0, Z0, hl, s, hx, hK, hZ⟩ => ⟨B, Wd, fr, frv, ρ, _, Z0, hl, s, hx, fun os ρ1 vs H1 hle k1 s1 => by
    obtain ⟨S, e1, e2, rp, s2⟩ := stack_reps hle s1
    split at k1
    · rename_i ts q
      rw [q] at rp
      obtain ⟨v, r, rfl, ⟨a, va, rfl, h1, h2⟩, rr⟩ := rp
      have rr' : r = [] := rr
      subst rr'
      exact ⟨a, va, rfl, SqL.of (e2 _ _ h1), hK _ _ _ _ _ k1 e1 s2 (iter_enum (SqL.of h1) h2)⟩
    · rename_i ts q
      rw [q] at rp
      obtain ⟨v, r, rfl, ⟨a, va, rfl, h1, h2⟩, rr⟩ := rp
      have rr' : r = [] := rr
      subst rr'
      exact ⟨a, va, rfl, Same.seq e2 h1, hK _ _ _ _ _ k1 e1 s2 (iter_enum h1 h2)⟩
    · exact k1.elim, hZ⟩
/-- zip of two lists -/
def xZip (y : XA) : XI := fun ρ K Z => y ρ (fun os ρ1 => match O.ts os with
  | [.lst ts, .lst us] => K (zipL ts us) ρ1
  | _ => False) Z
theorem pi_zip {tpos : Pos} {elts : List Expr} {kk : Nat} {e2 : Expr} (hg : Gl X "zip") (hm : X.mg "zip" = none) (ha : PAt X W [e, e2] y) (hs : starEach [e, e2] X.env = (false, eval e X.env) :: starEach [e2] X.env := by rfl) (hpl : (backTo pos (starEach [e2] X.env)).any (·.1) = false := by rfl) :
    PIt X W (.Tuple elts kk tpos) (.Call (.Name "zip" p) [e, e2] [] pos) (xZip y) :=
  PI.imp (L2.pi_zip hg hm ha hs hpl) fun σ H Q ⟨B, Wd, fr, frv, ρ, K0, Z0, hl, s, hx, hK, hZ⟩ => ⟨B, Wd, fr, frv, ρ, _, Z0, hl, s, hx, fun os ρ1 vs H1 hle k1 s1 => by
    obtain ⟨S, e1, e2, rp, s2⟩ := stack_reps hle s1
    split at k1
    · rename_i ts us q
      rw [q] at rp
      obtain ⟨v, r, rfl, ⟨a, va, rfl, h1, h2⟩, w, r2, rfl, ⟨b, vb, rfl, h3, h4⟩, rr⟩ := rp
      have rr' : r2 = [] := rr
      subst rr'
      exact ⟨a, b, va, vb, rfl, SqL.of (e2 _ _ h1), SqL.of (e2 _ _ h3), hK _ _ _ _ _ k1 e1 s2 (iter_zip (SqL.of h1) (SqL.of h3) h2 h4)⟩
    · exact k1.elim, hZ⟩

/-! ### for -/
def xFor (it : XI) (g : XG) (b : XS) : XS := fun D ρ => it ρ (fun ts ρ1 => ∃ I : Nat → R → Prop, I 0 ρ1 ∧
  (∀ i t ρ, ts[i]? = some t → I i ρ → g (.sh t) ρ fun ρ2 => b { D with nx := I (i + 1), ct := I (i + 1), bk := D.nx } ρ2) ∧ ∀ ρ, I ts.length ρ → D.nx ρ) D.ex
theorem ps_for {sl : List Nat} {iter : Expr} {body : List Stmt} {xi : XI} {xb : XS} (hp : PassesOwn (model X.prog X.w) X.A X.env X.xe) (hc : X.calm = true) (hi : PIt X W tg iter xi) (hg : PGt X sl tg g) (hb : PSst X W body xb)
    (hs : ∀ x, foldedSetIterable iter X.env x = pure x := by intro _; rfl) : PSt X W (.For tg iter body [] pos) (xFor xi g xb) :=
  PS.imp (L2.ps_for hp hc hi hg hb hs) fun D σ H ⟨B, Wd, fr, frv, ρ, D0, hl, s, hx, q1, q2, q3, q4, q5⟩ => ⟨B, Wd, fr, frv, ρ, _, _, hl, s, hx, fun ts ρ1 S J H1 k1 bs s1 ik => by
    obtain ⟨I, i0, turn, done⟩ := k1
    obtain ⟨G, Y, wk, gk, yk⟩ := ik
    refine for_it wk (fun i σ H => ∃ ρ, Sim X.K S Wd (fr ++ ρ) (frv ++ σ) H ∧ I i ρ) ⟨ρ1, s1, i0⟩ (fun i σ H _ ⟨ρ, s, _⟩ => by
      obtain ⟨S', e1, e2, _⟩ := s.self
      exact gk H (e1.trans e2)) (fun i x σ H H' hi ⟨ρ, s, ii⟩ hy => ?_) fun σ H ⟨ρ, s, ii⟩ => q1 _ _ _ (done ρ ii) (s.rebase bs)
    obtain ⟨t, et⟩ : ∃ t, ts[i]? = some t := ⟨ts[i], List.getElem?_eq_getElem hi⟩
    have s3 := yk i t H x H' S _ _ et hy (Same.refl _) s
    refine ⟨S, Wd, fr, frv, ρ, .sh t, _, hl, s3, turn i t ρ et ii, fun ρ2 σ2 H2 k2 _ s2 => ?_⟩
    exact ⟨S, Wd, fr, frv, ρ2, _, hl, s2, k2, fun ρ' σ' H' k' s' => ⟨ρ', s', k'⟩, fun ρ' σ' H' k' s' => q1 _ _ _ k' (s'.rebase bs), fun ρ' σ' H' k' s' => ⟨ρ', s', k'⟩, fun o ρ' v σ' H' k' s' => q4 _ _ _ _ _ k' (s'.rebase bs),
      fun σ' C fs us ρ' d H' z s' => q5 σ' C fs us ρ' d H' z (s'.rebase bs)⟩, q5 σ⟩
end
end TL

namespace TL
open PySem PySem.Spec PyProof.Rows L2
/-! ### an owned list in a slot -/
def O.un : O → O
  | .io _ o => o
  | o => o
def O.re : O → O → O
  | .io v _, o => .io v o
  | _, o => o
section
variable {K : PySem.W.Frag} {B Wd S H : Hp} {os as : List O} {vs va : List V} {fr ρ : R} {frv σ : L2.St} {a : Addr} {c o : O} {v : V} {j : Nat}
theorem Smo.un (h : Smo K B Wd (c :: as) (v :: va) H) : Smo K B Wd (c.un :: as) (v :: va) H ∧ ∀ o' as' va' H', Smo K B Wd (o' :: as') (v :: va') H' → Smo K B Wd (c.re o' :: as') (v :: va') H' := by
  cases c with
  | io v0 o =>
    obtain ⟨S, f, h1, h2, h3, ⟨w, r, f1, f2, e, ⟨ev, ow⟩, h5, ef⟩, rest⟩ := h
    cases e
    subst ev
    refine ⟨⟨S, f, h1, h2, h3, ⟨v, va, f1, f2, rfl, ow, h5, ef⟩, rest⟩, fun o' as' va' H' h' => ?_⟩
    obtain ⟨S', f', h1', h2', h3', ⟨w', r', f1', f2', e', ow', h5', ef'⟩, rest'⟩ := h'
    cases e'
    exact ⟨S', f', h1', h2', h3', ⟨v, va', f1', f2', rfl, ⟨rfl, ow'⟩, h5', ef'⟩, rest'⟩
  | _ => exact ⟨h, fun o' as' va' H' h' => h'⟩
/-- the owned list in slot j, the stack as in front of all -/
theorem Sim.listAt (h : Sim K B Wd (as.map some ++ (fr ++ ρ)) (va.map some ++ (frv ++ σ)) H) (hl : fr.length = frv.length) (hla : as.length = va.length) (e : ρ[j]? = some (some c)) (ec : c.un = .lst os) :
    ∃ a vs, σ[j]? = some (some (.ref a)) ∧ H a = some (.lst vs) ∧ os.length = vs.length ∧ ∀ (os' as' : List O) (vs' va' : List V), as'.length = va'.length →
      (∀ H' S f g, Same B S → Owns K H' S os vs f → Owns K H' S as va g → ∃ f' g' r, Owns K H' S os' vs' f' ∧ Owns K H' S as' va' g' ∧ (f ++ g).Perm (f' ++ g' ++ r)) →
      Sim K B Wd (as'.map some ++ (fr ++ ρ.set j (some (c.re (.lst os'))))) (va'.map some ++ (frv ++ σ)) (upd H a (.lst vs')) := by
  have hj : j < ρ.length := (List.getElem?_eq_some_iff.mp e).1
  obtain ⟨v, h1, h2⟩ := h.pull (n := as.length + (fr.length + j)) (o := c) (by
    rw [List.getElem?_append_right (by simp), List.length_map, Nat.add_sub_cancel_left, get_app]
    exact e)
  have h1' : σ[j]? = some (some v) := by
    rw [List.getElem?_append_right (by simp; omega), List.length_map, hla, Nat.add_sub_cancel_left, hl, get_app] at h1
    exact h1
  have hs : (as.map some ++ (fr ++ ρ)).set (as.length + (fr.length + j)) none = as.map some ++ (fr ++ ρ.set j none) := by
    rw [List.set_append_right _ _ (by simp), List.length_map, Nat.add_sub_cancel_left, set_app]
  rw [hs] at h2
  obtain ⟨B', Wd', hBB, h3, back⟩ := Sim.front (as := c :: as) (va := v :: va) (by simp [hla]) (by simpa using h2)
  obtain ⟨h4, re⟩ := h3.un
  rw [ec] at h4
  have h5 := h4
  obtain ⟨a, vs, ev, ha, hlen⟩ : ∃ a vs, v = .ref a ∧ H a = some (.lst vs) ∧ os.length = vs.length := by
    obtain ⟨S, f, _, _, _, ⟨w, r, f1, f2, ew, ⟨a, vs, fq, e2, e3, e4, _⟩, _⟩, _⟩ := h4
    cases ew
    exact ⟨a, vs, e2, e3, (Owns.len e4).1⟩
  subst ev
  obtain ⟨vs2, ha2, _, upd'⟩ := h5.setL
  rw [ha] at ha2
  cases ha2
  refine ⟨a, vs, h1', ha, hlen, fun os' as' vs' va' hla' hh => ?_⟩
  have h6 := re _ _ _ _ (upd' os' as' vs' va' fun H' S f g hS => hh H' S f g (hBB.trans hS))
  have h7 := back (c.re (.lst os') :: as') (.ref a :: va') _ h6
  have h8 := Sim.put (os := as'.map some ++ (fr ++ ρ.set j none)) (vs := va'.map some ++ (frv ++ σ)) (x := some (c.re (.lst os'))) (v := some (.ref a)) (by simpa using h7) (as'.length + (fr.length + j))
  have e1 : (as'.map some ++ (fr ++ ρ.set j none)).set (as'.length + (fr.length + j)) (some (c.re (.lst os'))) = as'.map some ++ (fr ++ ρ.set j (some (c.re (.lst os')))) := by
    rw [List.set_append_right _ _ (by simp), List.length_map, Nat.add_sub_cancel_left, set_app, List.set_set]
  have e2 : (va'.map some ++ (frv ++ σ)).set (as'.length + (fr.length + j)) (some (.ref a)) = va'.map some ++ (frv ++ σ) := by
    rw [List.set_append_right _ _ (by simp; omega), List.length_map, hla', Nat.add_sub_cancel_left, hl, set_app, set_id h1']
  rw [e1, e2] at h8
  exact h8
end
def slotL (ρ : R) (j : Nat) : Option (O × List O) := match ρ[j]? with
  | some (some c) => (match c.un with
    | .lst os => some (c, os)
    | _ => none)
  | _ => none
theorem slotL_some {ρ : R} {j : Nat} {c : O} {os : List O} (h : slotL ρ j = some (c, os)) : ρ[j]? = some (some c) ∧ c.un = .lst os := by
  unfold slotL at h
  split at h
  · rename_i c' e
    split at h
    · rename_i os' e2
      cases h
      exact ⟨e, e2⟩
    · cases h
  · cases h
def putL (ρ : R) (j : Nat) (c : O) (os : List O) : R := ρ.set j (some (c.re (.lst os)))
def isSL (ρ : R) (j : Nat) : Prop := (slotL ρ j).isSome = true
/-- x.append(e), x.pop(), x.pop(e), x.extend(e), x.insert(i, e) of the list in slot j -/
def xApp (j : Nat) (y : XA) : XE := fun ρ K Z => isSL ρ j ∧ y ρ (fun as ρ1 => match slotL ρ1 j, as with
  | some (c, os), [o] => os.length < sizeLine ∧ K (.sh .non) (putL ρ1 j c (os ++ [o]))
  | _, _ => False) Z
def xPop (j : Nat) : XE := fun ρ K Z => match slotL ρ j with
  | some (c, os) => (match os.getLast? with
    | some o => K o (putL ρ j c os.dropLast)
    | none => False)
  | _ => False
def xPopAt (j : Nat) (y : XA) : XE := fun ρ K Z => isSL ρ j ∧ y ρ (fun as ρ1 => match slotL ρ1 j, O.ts as with
  | some (c, os), [.int i] => -(2 ^ 63) ≤ i ∧ i < 2 ^ 63 ∧ (match ixN os.length i with
    | some k => (match os[k]? with
      | some o => K o (putL ρ1 j c (os.eraseIdx k))
      | none => False)
    | none => False)
  | _, _ => False) Z
def xExt (j : Nat) (y : XA) : XE := fun ρ K Z => isSL ρ j ∧ y ρ (fun as ρ1 => match slotL ρ1 j, O.ts as with
  | some (c, os), [.lst ts] => os.length + ts.length ≤ sizeLine ∧ K (.sh .non) (putL ρ1 j c (os ++ ts.map .sh))
  | _, _ => False) Z
def xIns (j : Nat) (y : XA) : XE := fun ρ K Z => isSL ρ j ∧ y ρ (fun as ρ1 => match slotL ρ1 j, as with
  | some (c, os), [oi, o] => (match oi.t with
    | .int i => os.length < sizeLine ∧ 0 ≤ i ∧ i < 2 ^ 63 ∧ K (.sh .non) (putL ρ1 j c (os.take i.toNat ++ [o] ++ os.drop i.toNat))
    | _ => False)
  | _, _ => False) Z
section
variable {X : Cx} {W : L2.WX} {e e1 e2 : Expr} {es : List Expr} {x : XE} {y : XA} {pos p apos cpos : Pos} {n name : Str}
theorem bm_core {id : String} {r : V → List V → Hp → VK → Prop} (j : Nat) {g : R → List O → (O → R → Prop) → Prop}
    (pa : PlainAttrs "list") (slot : Slot "list" name id) (hty : typeOf (.builtin id) = pure (.type "method_descriptor")) (hm : MtR X id r) (ha : PAt X W (e :: es) y)
    (ok : ∀ B Wd fr frv ρ σ os as va H K0 Q c, fr.length = frv.length → as.length = va.length → slotL ρ j = some (c, os) → Sim X.K B Wd (as.map some ++ (fr ++ ρ)) (va.map some ++ (frv ++ σ)) H → g ρ as K0 →
      (∀ o ρ' v H', K0 o ρ' → Sim X.K B Wd (some o :: (fr ++ ρ')) (some v :: (frv ++ σ)) H' → Q v H') → ∃ l, σ[j]? = some (some (.ref l)) ∧ r (.ref l) va H Q)
    (gs : ∀ ρ as K, g ρ as K → isSL ρ j)
    (hN : X.N[j]? = some n) (hv : Vis X.env.scope n) (hd : (n == ("__debug__" : Str)) = false) (hcd : (n == ("__classdict__" : Str)) = false)
    (hbase : attributeBase (.Name n p) name X.env (eval (.Name n p) X.env) = eval (.Name n p) X.env)
    (hfew : ((backTo cpos (starEach (e :: es) X.env)).all (fun x => !x.1) && (backToKw cpos (keywordEach [] X.env)).all (fun x => x.1.isSome)
      && decide ((e :: es).length + ([] : List Keyword).length + (if ([] : List Keyword).isEmpty then 0 else 1) < 30)) = true)
    (hline : (apos.endLine == cpos.line) = true) (hs : starEach (e :: es) X.env = (false, eval e X.env) :: starEach es X.env) (hplain : (backTo cpos (starEach es X.env)).any (·.1) = false) :
    PEt X W (.Call (.Attribute (.Name n p) name apos) (e :: es) [] cpos) (fun ρ K Z => isSL ρ j ∧ y ρ (fun as ρ1 => g ρ1 as K) Z) :=
  PE.imp (L2.pe_bm pa slot hty hm (pe_var (i := j) hN hv hd hcd) ha hbase hfew hline hs hplain) fun σ H Q ⟨B, Wd, fr, frv, ρ, K0, Z0, hl, s, hx, hK, hZ⟩ => by
    obtain ⟨h0, hx⟩ := hx
    obtain ⟨⟨c, os⟩, hsl⟩ := Option.isSome_iff_exists.mp h0
    obtain ⟨q1, q2⟩ := slotL_some hsl
    obtain ⟨a, vs, ea, ha', _, _⟩ := Sim.listAt (as := []) (va := []) (by simpa using s) hl rfl q1 q2
    refine ⟨.ref a, ea, .inl ⟨rfl, vs, SqL.of ha'⟩, B, Wd, fr, frv, ρ, _, Z0, hl, s, hx, fun as ρ1 va H1 hla k1 s1 => ?_, hZ⟩
    obtain ⟨⟨c1, os1⟩, hsl1⟩ := Option.isSome_iff_exists.mp (gs _ _ _ k1)
    obtain ⟨l, el, q⟩ := ok B Wd fr frv ρ1 σ os1 as va H1 K0 Q c1 hl hla hsl1 s1 k1 hK
    rw [ea] at el
    cases el
    exact q
theorem pe_app (j : Nat) (ha : PAt X W [e] y)
    (hN : X.N[j]? = some n := by rfl) (hv : Vis X.env.scope n := by first | exact Or.inl rfl | exact Or.inr (Or.inl rfl) | exact Or.inr (Or.inr rfl)) (hd : (n == ("__debug__" : Str)) = false := by decide) (hcd : (n == ("__classdict__" : Str)) = false := by decide)
    (hbase : attributeBase (.Name n p) "append" X.env (eval (.Name n p) X.env) = eval (.Name n p) X.env := by rfl)
    (hfew : ((backTo cpos (starEach [e] X.env)).all (fun x => !x.1) && (backToKw cpos (keywordEach [] X.env)).all (fun x => x.1.isSome)
      && decide (([e] : List Expr).length + ([] : List Keyword).length + (if ([] : List Keyword).isEmpty then 0 else 1) < 30)) = true := by rfl)
    (hline : (apos.endLine == cpos.line) = true := by rfl) (hs : starEach [e] X.env = (false, eval e X.env) :: starEach [] X.env := by rfl) (hplain : (backTo cpos (starEach [] X.env)).any (·.1) = false := by rfl) :
    PEt X W (.Call (.Attribute (.Name n p) "append" apos) [e] [] cpos) (xApp j y) :=
  bm_core j PySem.F.plainAttrs_list PySem.F.slot_list_append PySem.F.type_list_append mt_append ha (g := fun ρ1 as K => match slotL ρ1 j, as with
    | some (c, os), [o] => os.length < sizeLine ∧ K (.sh .non) (putL ρ1 j c (os ++ [o]))
    | _, _ => False) (fun B Wd fr frv ρ σ os as va H K0 Q c hl hla hsl s g hQ => by
    rw [hsl] at g
    obtain ⟨q1, q2⟩ := slotL_some hsl
    match as, g with
    | [o], g =>
      obtain ⟨v, rfl⟩ : ∃ v, va = [v] := by
        match va, hla with
        | [v], _ => exact ⟨v, rfl⟩
      obtain ⟨a, vs, ea, ha', hlen, up⟩ := Sim.listAt s hl hla q1 q2
      refine ⟨a, ea, a, vs, v, rfl, rfl, ha', by rw [← hlen]; exact g.1, hQ _ _ _ _ g.2 ?_⟩
      have h9 := up (os ++ [o]) [] (vs ++ [v]) [] rfl fun H' S f g hS o1 o2 => ⟨f ++ g, [], [], o1.app o2, ⟨rfl, rfl⟩, by simp⟩
      exact Sim.push (by simpa [putL] using h9) fun _ => rfl
    | [], g => exact (show False from g).elim
    | _ :: _ :: _, g => exact (show False from g).elim) (fun ρ as K g => by
    unfold isSL
    cases q : slotL ρ j with
    | none => rw [q] at g; exact (show False from g).elim
    | some z => rfl) hN hv hd hcd hbase hfew hline hs hplain
theorem ixN_seqL {n : Nat} {i : Int} {k : Nat} (h : ixN n i = some k) : seqIndex? i n = some k ∧ k < n := let ⟨a, b, _, _⟩ := ixN_seq h; ⟨a, b⟩
theorem split_at {α : Type} : ∀ {l : List α} {k : Nat} {x : α}, l[k]? = some x → l = l.take k ++ x :: l.drop (k + 1)
  | [], _, _, h => by simp at h
  | a :: l, 0, x, h => by simp at h; simp [h]
  | a :: l, k + 1, x, h => by
    simp at h
    simp only [List.take_succ_cons, List.drop_succ_cons, List.cons_append]
    rw [← split_at h]
theorem erase_at {α : Type} (l : List α) (k : Nat) : l.eraseIdx k = l.take k ++ l.drop (k + 1) := List.eraseIdx_eq_take_drop_succ l k
theorem take_at {α β : Type} {l : List α} {v1 v2 : List β} {x : α} {y : β} {k : Nat} (h : (l.take k).length = v1.length) (hk : k < l.length) : (v1 ++ y :: v2).take k = v1 ∧ (v1 ++ y :: v2).drop (k + 1) = v2 ∧ (v1 ++ y :: v2)[k]? = some y := by
  have : v1.length = k := by rw [← h, List.length_take]; omega
  subst this
  refine ⟨by simp, by simp, by simp⟩
theorem pe_popAt (j : Nat) (ha : PAt X W [e] y)
    (hN : X.N[j]? = some n := by rfl) (hv : Vis X.env.scope n := by first | exact Or.inl rfl | exact Or.inr (Or.inl rfl) | exact Or.inr (Or.inr rfl)) (hd : (n == ("__debug__" : Str)) = false := by decide) (hcd : (n == ("__classdict__" : Str)) = false := by decide)
    (hbase : attributeBase (.Name n p) "pop" X.env (eval (.Name n p) X.env) = eval (.Name n p) X.env := by rfl)
    (hfew : ((backTo cpos (starEach [e] X.env)).all (fun x => !x.1) && (backToKw cpos (keywordEach [] X.env)).all (fun x => x.1.isSome)
      && decide (([e] : List Expr).length + ([] : List Keyword).length + (if ([] : List Keyword).isEmpty then 0 else 1) < 30)) = true := by rfl)
    (hline : (apos.endLine == cpos.line) = true := by rfl) (hs : starEach [e] X.env = (false, eval e X.env) :: starEach [] X.env := by rfl) (hplain : (backTo cpos (starEach [] X.env)).any (·.1) = false := by rfl) :
    PEt X W (.Call (.Attribute (.Name n p) "pop" apos) [e] [] cpos) (xPopAt j y) :=
  bm_core j PySem.F.plainAttrs_list PySem.F.slot_list_pop PySem.F.type_list_pop mt_popAt ha (g := fun ρ1 as K => match slotL ρ1 j, O.ts as with
    | some (c, os), [.int i] => -(2 ^ 63) ≤ i ∧ i < 2 ^ 63 ∧ (match ixN os.length i with
      | some k => (match os[k]? with
        | some o => K o (putL ρ1 j c (os.eraseIdx k))
        | none => False)
      | none => False)
    | _, _ => False) (fun B Wd fr frv ρ σ os as va H K0 Q c hl hla hsl s g hQ => by
    rw [hsl] at g
    obtain ⟨q1, q2⟩ := slotL_some hsl
    have st := stack_reps (fr := fr ++ ρ) (frv := frv ++ σ) hla s
    split at g
    · rename_i cc os i h1 h2
      cases h1
      obtain ⟨S, e1, e2, rp, s2⟩ := st
      rw [h2] at rp
      obtain ⟨v, r0, rfl, rv, rr⟩ := rp
      have rr' : r0 = [] := rr
      subst rr'
      have rv' : v = .int i := rv
      subst rv'
      obtain ⟨g1, g2, g⟩ := g
      cases hk : ixN os.length i with
      | none => rw [hk] at g; exact g.elim
      | some k =>
        rw [hk] at g
        obtain ⟨hk1, hk2⟩ := ixN_seqL hk
        have g : (match os[k]? with | some o => K0 o (putL ρ j c (os.eraseIdx k)) | none => False) := g
        cases ho : os[k]? with
        | none => rw [ho] at g; exact g.elim
        | some o =>
          rw [ho] at g
          obtain ⟨a, vs, ea, ha', hlen, up⟩ := Sim.listAt s hl hla q1 q2
          have hvk : k < vs.length := by omega
          have hsp := split_at ho
          refine ⟨a, ea, a, vs, i, k, vs[k], rfl, rfl, ha', g1, g2, by rw [← hlen]; exact hk1, List.getElem?_eq_getElem hvk, hQ _ _ _ _ g ?_⟩
          have h9 := up (os.eraseIdx k) [o] (vs.eraseIdx k) [vs[k]] rfl fun H' S f g hS o1 o2 => by
            rw [hsp] at o1
            obtain ⟨v1, v2, f1, f2, rfl, rfl, oa, ob⟩ := o1.split
            obtain ⟨w, r, f3, f4, rfl, oc, od, rfl⟩ := ob
            obtain ⟨t1, t2, t3⟩ := take_at (x := o) (y := w) (v2 := r) (Owns.len oa).1 (List.getElem?_eq_some_iff.mp ho).1
            have ew : (v1 ++ w :: r)[k] = w := by
              have := List.getElem?_eq_getElem (l := v1 ++ w :: r) hvk
              rw [t3] at this
              exact (Option.some.inj this).symm
            simp only [erase_at, t1, t2, ew]
            refine ⟨f1 ++ f4, f3, g, oa.app od, Owns.one oc, ?_⟩
            refine List.Perm.append_right _ ?_
            exact List.Perm.trans (List.Perm.append_left _ List.perm_append_comm) (by rw [List.append_assoc])
          simpa [putL] using h9
    · exact g.elim) (fun ρ as K g => by
    unfold isSL
    cases q : slotL ρ j with
    | none => rw [q] at g; exact (show False from g).elim
    | some z => rfl) hN hv hd hcd hbase hfew hline hs hplain
theorem pe_ext (j : Nat) (ha : PAt X W [e] y)
    (hN : X.N[j]? = some n := by rfl) (hv : Vis X.env.scope n := by first | exact Or.inl rfl | exact Or.inr (Or.inl rfl) | exact Or.inr (Or.inr rfl)) (hd : (n == ("__debug__" : Str)) = false := by decide) (hcd : (n == ("__classdict__" : Str)) = false := by decide)
    (hbase : attributeBase (.Name n p) "extend" X.env (eval (.Name n p) X.env) = eval (.Name n p) X.env := by rfl)
    (hfew : ((backTo cpos (starEach [e] X.env)).all (fun x => !x.1) && (backToKw cpos (keywordEach [] X.env)).all (fun x => x.1.isSome)
      && decide (([e] : List Expr).length + ([] : List Keyword).length + (if ([] : List Keyword).isEmpty then 0 else 1) < 30)) = true := by rfl)
    (hline : (apos.endLine == cpos.line) = true := by rfl) (hs : starEach [e] X.env = (false, eval e X.env) :: starEach [] X.env := by rfl) (hplain : (backTo cpos (starEach [] X.env)).any (·.1) = false := by rfl) :
    PEt X W (.Call (.Attribute (.Name n p) "extend" apos) [e] [] cpos) (xExt j y) :=
  bm_core j PySem.F.plainAttrs_list PySem.F.slot_list_extend PySem.F.type_list_extend mt_extend ha (g := fun ρ1 as K => match slotL ρ1 j, O.ts as with
    | some (c, os), [.lst ts] => os.length + ts.length ≤ sizeLine ∧ K (.sh .non) (putL ρ1 j c (os ++ ts.map .sh))
    | _, _ => False) (fun B Wd fr frv ρ σ os as va H K0 Q c hl hla hsl s g hQ => by
    rw [hsl] at g
    obtain ⟨q1, q2⟩ := slotL_some hsl
    have st := stack_reps (fr := fr ++ ρ) (frv := frv ++ σ) hla s
    split at g
    · rename_i cc oo ts h1 h2
      cases h1
      obtain ⟨S, e1, e2, rp, s2⟩ := st
      rw [h2] at rp
      obtain ⟨v, r0, rfl, ⟨b, vb, rfl, hb, rb⟩, rr⟩ := rp
      have rr' : r0 = [] := rr
      subst rr'
      obtain ⟨a, vs, ea, ha', hlen, up⟩ := Sim.listAt (as := []) (va := []) (by simpa using s2) hl rfl q1 q2
      refine ⟨a, ea, a, b, vs, vb, rfl, rfl, ha', e2 _ _ hb, by rw [← hlen, ← rb.len]; exact g.1, hQ _ _ _ _ g.2 ?_⟩
      have h9 := up (os ++ ts.map .sh) [] (vs ++ vb) [] rfl fun H' S' f g hS o1 o2 => ⟨f, g, [], by simpa using o1.app (Owns.sh (rb.mono hS)), o2, by simp⟩
      exact Sim.rebase e1 (Sim.push (by simpa [putL] using h9) fun _ => rfl)
    · exact g.elim) (fun ρ as K g => by
    unfold isSL
    cases q : slotL ρ j with
    | none => rw [q] at g; exact (show False from g).elim
    | some z => rfl) hN hv hd hcd hbase hfew hline hs hplain
theorem pe_ins (j : Nat) (ha : PAt X W [e1, e2] y)
    (hN : X.N[j]? = some n := by rfl) (hv : Vis X.env.scope n := by first | exact Or.inl rfl | exact Or.inr (Or.inl rfl) | exact Or.inr (Or.inr rfl)) (hd : (n == ("__debug__" : Str)) = false := by decide) (hcd : (n == ("__classdict__" : Str)) = false := by decide)
    (hbase : attributeBase (.Name n p) "insert" X.env (eval (.Name n p) X.env) = eval (.Name n p) X.env := by rfl)
    (hfew : ((backTo cpos (starEach [e1, e2] X.env)).all (fun x => !x.1) && (backToKw cpos (keywordEach [] X.env)).all (fun x => x.1.isSome)
      && decide (([e1, e2] : List Expr).length + ([] : List Keyword).length + (if ([] : List Keyword).isEmpty then 0 else 1) < 30)) = true := by rfl)
    (hline : (apos.endLine == cpos.line) = true := by rfl) (hs : starEach [e1, e2] X.env = (false, eval e1 X.env) :: starEach [e2] X.env := by rfl) (hplain : (backTo cpos (starEach [e2] X.env)).any (·.1) = false := by rfl) :
    PEt X W (.Call (.Attribute (.Name n p) "insert" apos) [e1, e2] [] cpos) (xIns j y) :=
  bm_core j PySem.F.plainAttrs_list PySem.F.slot_list_insert PySem.F.type_list_insert mt_insert ha (g := fun ρ1 as K => match slotL ρ1 j, as with
    | some (c, os), [oi, o] => (match oi.t with
      | .int i => os.length < sizeLine ∧ 0 ≤ i ∧ i < 2 ^ 63 ∧ K (.sh .non) (putL ρ1 j c (os.take i.toNat ++ [o] ++ os.drop i.toNat))
      | _ => False)
    | _, _ => False) (fun B Wd fr frv ρ σ os as va H K0 Q c hl hla hsl s g hQ => by
    rw [hsl] at g
    obtain ⟨q1, q2⟩ := slotL_some hsl
    match as, g with
    | [oi, o], g =>
      obtain ⟨vi, v, rfl⟩ : ∃ vi v, va = [vi, v] := by
        match va, hla with
        | [vi, v], _ => exact ⟨vi, v, rfl⟩
      obtain ⟨S, _, _, rp⟩ := Sim.rep (K := X.K) (B := B) (Wd := Wd) (o := oi) (os := some o :: (fr ++ ρ)) (v := vi) (vs := some v :: (frv ++ σ)) (by simpa using s)
      have g : (match oi.t with
        | .int i => os.length < sizeLine ∧ 0 ≤ i ∧ i < 2 ^ 63 ∧ K0 (.sh .non) (putL ρ j c (os.take i.toNat ++ [o] ++ os.drop i.toNat))
        | _ => False) := g
      cases hi : oi.t <;> rw [hi] at g rp <;> first
        | exact (show False from g).elim
        | skip
      rename_i i
      have rv : vi = .int i := rp
      subst rv
      obtain ⟨g1, g2, g3, g⟩ := g
      obtain ⟨a, vs, ea, ha', hlen, up⟩ := Sim.listAt s hl hla q1 q2
      refine ⟨a, ea, a, vs, i, v, rfl, rfl, ha', by rw [← hlen]; exact g1, g2, g3, hQ _ _ _ _ g ?_⟩
      have h9 := up (os.take i.toNat ++ [o] ++ os.drop i.toNat) [] (vs.take i.toNat ++ [v] ++ vs.drop i.toNat) [] rfl fun H' S f g hS o1 o2 => by
        obtain ⟨w, r, f1, f2, ew, oa, ob, rfl⟩ := o2
        cases ew
        obtain ⟨w2, ew2, oc⟩ := Owns.of_one ob
        cases ew2
        have hsp : os = os.take i.toNat ++ os.drop i.toNat := (List.take_append_drop _ _).symm
        rw [hsp] at o1
        obtain ⟨v1, v2, f3, f4, rfl, rfl, oe, og⟩ := o1.split
        have hv1 : v1.length = (os.take i.toNat).length := (Owns.len oe).1.symm
        have hv2 : v2.length = (os.drop i.toNat).length := (Owns.len og).1.symm
        have t1 : (v1 ++ v2).take i.toNat = v1 ∧ (v1 ++ v2).drop i.toNat = v2 := by
          by_cases hle : i.toNat ≤ os.length
          · have : v1.length = i.toNat := by rw [hv1, List.length_take]; omega
            rw [← this]
            simp
          · have h0 : v2 = [] := List.eq_nil_of_length_eq_zero (by rw [hv2, List.length_drop]; omega)
            subst h0
            have h1 : v1.length ≤ i.toNat := by rw [hv1, List.length_take]; omega
            simp [List.take_of_length_le h1, List.drop_eq_nil_of_le h1]
        rw [t1.1, t1.2]
        refine ⟨f3 ++ f2 ++ f4, [], f1, (oe.app ob).app og, ⟨rfl, rfl⟩, ?_⟩
        simp only [List.append_nil, List.append_assoc]
        refine List.Perm.append_left _ ?_
        have p1 : (f4 ++ (f1 ++ f2)).Perm ((f1 ++ f2) ++ f4) := List.perm_append_comm
        refine p1.trans ?_
        rw [List.append_assoc]
        exact List.perm_append_comm.trans (by rw [List.append_assoc])
      exact Sim.push (by simpa [putL] using h9) fun _ => rfl
    | [], g => exact (show False from g).elim
    | [_], g => exact (show False from g).elim
    | _ :: _ :: _ :: _, g => exact (show False from g).elim) (fun ρ as K g => by
    unfold isSL
    cases q : slotL ρ j with
    | none => rw [q] at g; exact (show False from g).elim
    | some z => rfl) hN hv hd hcd hbase hfew hline hs hplain
theorem pe_pop (j : Nat) (hN : X.N[j]? = some n := by rfl) (hv : Vis X.env.scope n := by first | exact Or.inl rfl | exact Or.inr (Or.inl rfl) | exact Or.inr (Or.inr rfl)) (hd : (n == ("__debug__" : Str)) = false := by decide) (hcd : (n == ("__classdict__" : Str)) = false := by decide)
    (hbase : attributeBase (.Name n p) "pop" X.env (eval (.Name n p) X.env) = eval (.Name n p) X.env := by rfl) (hline : (apos.endLine == cpos.line) = true := by rfl) :
    PEt X W (.Call (.Attribute (.Name n p) "pop" apos) [] [] cpos) (xPop j) :=
  PE.imp (pe_bm0 PySem.F.plainAttrs_list PySem.F.slot_list_pop PySem.F.type_list_pop mt_pop (pe_var (i := j) hN hv hd hcd) hbase hline) fun σ H Q ⟨B, Wd, fr, frv, ρ, K0, Z0, hl, s, hx, hK, hZ⟩ => by
    unfold xPop at hx
    cases hsl : slotL ρ j with
    | none => rw [hsl] at hx; exact hx.elim
    | some z =>
      obtain ⟨c, os⟩ := z
      rw [hsl] at hx
      obtain ⟨q1, q2⟩ := slotL_some hsl
      obtain ⟨a, vs, ea, ha', hlen, up⟩ := Sim.listAt (as := []) (va := []) (by simpa using s) hl rfl q1 q2
      have hx' : (match os.getLast? with | some o => K0 o (putL ρ j c os.dropLast) | none => False) := hx
      cases ho : os.getLast? with
      | none => rw [ho] at hx'; exact hx'.elim
      | some o =>
        rw [ho] at hx'
        obtain ⟨os1, rfl⟩ : ∃ os1, os = os1 ++ [o] := List.getLast?_eq_some_iff.mp ho
        have hvl : vs.length - 1 < vs.length := by simp at hlen; omega
        refine ⟨.ref a, ea, .inl ⟨rfl, vs, SqL.of ha'⟩, a, vs, vs[vs.length - 1], rfl, rfl, ha', List.getElem?_eq_getElem hvl, hK _ _ _ _ hx' ?_⟩
        have h9 := up (os1 ++ [o]).dropLast [o] vs.dropLast [vs[vs.length - 1]] rfl fun H' S f g hS o1 o2 => by
          obtain ⟨v1, v2, f1, f2, rfl, rfl, oa, ob⟩ := o1.split
          obtain ⟨w, rfl, oc⟩ := Owns.of_one ob
          have e1 : (v1 ++ [w])[(v1 ++ [w]).length - 1] = w := by simp
          rw [e1, List.dropLast_concat, List.dropLast_concat]
          exact ⟨f1, f2, g, oa, Owns.one oc, List.Perm.refl _⟩
        simpa [putL] using h9
end
end TL

namespace TL
open PySem PySem.Spec PyProof.Rows L2
/-- exceptions whose context is None -/
abbrev Takes (X : Cx) (W : L2.WX) : Prop := L2N.Takes X W
/-! ### promises over trees -/
abbrev ZX := Addr → List Str → List T → Prop
/-- a def that changes nothing: from the arguments to the answer -/
abbrev PF := List O → (O → Prop) → ZX → Prop
/-- a def that changes its first argument -/
abbrev IF := O → List O → (O → O → Prop) → ZX → Prop
def spP (K : PySem.W.Frag) (g : PF) : Sp := fun vs H Q E => ∃ B Wd os K0 Z0, Sim K B Wd (os.map some) (vs.map some) H ∧ g os K0 Z0 ∧ (∀ o v H', K0 o → Sim K B Wd [some o] [some v] H' → Q v H') ∧
  ∀ C fs ts d H', Z0 C fs ts → Sim K B Wd [some (.sh (.xd fs ts))] [some (.ref d)] H' → E (.ref C) (some d) H'
def spI (K : PySem.W.Frag) (g : IF) : Sp := fun vs H Q E => ∃ B Wd o0 v0 os us K0 Z0, vs = v0 :: us ∧ Sim K B Wd (some o0 :: os.map some) (some v0 :: us.map some) H ∧ g o0 os K0 Z0 ∧ (∀ o o' v H', K0 o o' → Sim K B Wd [some o, some o'] [some v, some v0] H' → Q v H') ∧
  ∀ C fs ts d H', Z0 C fs ts → Sim K B Wd [some (.sh (.xd fs ts))] [some (.ref d)] H' → E (.ref C) (some d) H'
/-- a global def keeps its promise -/
structure Fn1 (P : Program) (w : World) (K : PySem.W.Frag) (mg : Str → Option Value) (base : Heap) (k : Nat) (x : Str) (ps : List Str) (sp : Sp) : Prop where
  mgx : mg x = some (.ref (He.ga K x))
  kp : PySem.W.keepIn K (.ref (He.ga K x)) = true
  ok : ∃ fd, Binds K fd ps [] ∧ FnOk P w K mg base (L2N.CX P w) k (He.ga K x) fd ps sp
theorem Fn1.mono {P : Program} {w : World} {K : PySem.W.Frag} {mg : Str → Option Value} {base : Heap} {j k : Nat} {x : Str} {ps : List Str} {sp : Sp} (F : Fn1 P w K mg base j x ps sp) (h : j ≤ k) : Fn1 P w K mg base k x ps sp :=
  let ⟨fd, b, f⟩ := F.ok; ⟨F.mgx, F.kp, fd, b, f.mono h⟩
/-- a global def of the text -/
structure Df (K : PySem.W.Frag) (mg : Str → Option Value) (x : Str) (st : Stmt) (ps : List Str) : Prop where
  mgx : mg x = some (.ref (He.ga K x))
  fd : ∃ fd, FunD K x x (defArgs st) (defBody st) (defScope st) [] [] (He.ga K x) fd ∧ Binds K fd ps []
def xCall (g : PF) (y : XA) : XE := fun ρ K Z => y ρ (fun os ρ1 => g os (fun o => K o ρ1) fun C fs ts => Z C fs ts ρ1) Z
def xCallI (j : Nat) (g : IF) (y : XA) : XE := fun ρ K Z => (∃ c, ρ[j]? = some (some c)) ∧ y ρ (fun os ρ1 => match ρ1[j]? with
  | some (some c) => g c.un os (fun o c' => K o (ρ1.set j (some (c.re c')))) fun C fs ts => Z C fs ts (ρ1.set j none)
  | _ => False) Z
section
variable {X : Cx} {W : L2.WX} {e e1 e2 : Expr} {es : List Expr} {x : XE} {y : XA} {pos p apos cpos : Pos} {n nm : Str} {k : Nat} {ps : List Str}
theorem pe_call {g : PF} (F : Fn1 X.prog X.w X.K X.mg X.base k nm ps (spP X.K g)) (hr : Room k X.A) (tk : Takes X W) (hg : Gl X nm) (ha : PAt X W (e :: es) y) (hdb : (nm == ("__debug__" : Str)) = false := by decide)
    (he : starEach (e :: es) X.env = (false, eval e X.env) :: starEach es X.env := by rfl) (hpl : (backTo pos (starEach es X.env)).any (·.1) = false := by rfl) : PEt X W (.Call (.Name nm p) (e :: es) [] pos) (xCall g y) := by
  obtain ⟨fd, bd, f⟩ := F.ok
  refine PE.imp (pe_callS f hr hg F.mgx F.kp bd (fun σ => L2N.passAt tk σ) ha hdb he hpl) fun σ H Q ⟨B, Wd, fr, frv, ρ, K0, Z0, hl, s, hx, hK, hZ⟩ => ⟨B, Wd, fr, frv, ρ, _, Z0, hl, s, hx, fun os ρ1 vs H1 hle k1 s1 => ?_, hZ⟩
  obtain ⟨B', Wd', _, h2, back⟩ := Sim.frame (as := os.map some) (va := vs.map some) (by simp [hle]) s1
  exact ⟨B', Wd', os, _, _, h2, k1, fun o v H' ko so => hK _ _ _ _ ko (back [some o] [some v] H' so), fun C fs ts d H' z so => hZ _ _ _ _ _ _ z (back [_] [_] H' so)⟩
theorem pe_callI (j : Nat) {g : IF} (F : Fn1 X.prog X.w X.K X.mg X.base k nm ps (spI X.K g)) (hr : Room k X.A) (tk : Takes X W) (hg : Gl X nm) (ha : PAt X W es y)
    (hN : X.N[j]? = some n := by rfl) (hv : Vis X.env.scope n := by first | exact Or.inl rfl | exact Or.inr (Or.inl rfl) | exact Or.inr (Or.inr rfl)) (hd : (n == ("__debug__" : Str)) = false := by decide) (hcd : (n == ("__classdict__" : Str)) = false := by decide)
    (hdb : (nm == ("__debug__" : Str)) = false := by decide)
    (he : starEach (.Name n apos :: es) X.env = (false, eval (.Name n apos) X.env) :: starEach es X.env := by rfl) (hpl : (backTo pos (starEach es X.env)).any (·.1) = false := by rfl) : PEt X W (.Call (.Name nm p) (.Name n apos :: es) [] pos) (xCallI j g y) := by
  obtain ⟨fd, bd, f⟩ := F.ok
  refine PE.imp (pe_callS f hr hg F.mgx F.kp bd (fun σ => L2N.passAt tk σ) (L2.pa_cons (pe_var (i := j) hN hv hd hcd) ha he) hdb he hpl) fun σ H Q ⟨B, Wd, fr, frv, ρ, K0, Z0, hl, s, hx, hK, hZ⟩ => ?_
  obtain ⟨⟨c0, hc0⟩, hx⟩ := hx
  obtain ⟨S, fp, sm⟩ := id s
  obtain ⟨v0, hv0, _⟩ := sm.own (fr.length + j) c0 (by rw [get_app]; exact hc0)
  rw [hl, get_app] at hv0
  refine ⟨v0, hv0, B, Wd, fr, frv, ρ, _, Z0, hl, s, hx, fun os ρ1 vs H1 hle k1 s1 => ?_, hZ⟩
  cases hc : ρ1[j]? with
  | none => rw [hc] at k1; exact k1.elim
  | some r =>
    rw [hc] at k1
    cases r with
    | none => exact k1.elim
    | some c =>
      obtain ⟨v1, hv1, s2⟩ := s1.pull (n := os.length + (fr.length + j)) (o := c) (by
        rw [List.getElem?_append_right (by simp), List.length_map, Nat.add_sub_cancel_left, get_app]
        exact hc)
      have ev : v1 = v0 := by
        rw [List.getElem?_append_right (by simp; omega), List.length_map, hle, Nat.add_sub_cancel_left, hl, get_app, hv0] at hv1
        exact (Option.some.inj (Option.some.inj hv1)).symm
      subst ev
      have hs : (os.map some ++ (fr ++ ρ1)).set (os.length + (fr.length + j)) none = os.map some ++ (fr ++ ρ1.set j none) := by
        rw [List.set_append_right _ _ (by simp), List.length_map, Nat.add_sub_cancel_left, set_app]
      rw [hs] at s2
      obtain ⟨B2, Wd2, _, h2, back2⟩ := Sim.front (as := [c]) (va := [v1]) rfl s2
      obtain ⟨h3, re⟩ := h2.un
      have s3 := back2 [c.un] [v1] H1 h3
      have s3' : Sim X.K B Wd ((some c.un :: os.map some) ++ (fr ++ ρ1.set j none)) ((some v1 :: vs.map some) ++ (frv ++ σ)) H1 := by simpa using s3
      obtain ⟨B', Wd', _, h4, back⟩ := Sim.frame (as := some c.un :: os.map some) (va := some v1 :: vs.map some) (by simp [hle]) s3'
      refine ⟨B', Wd', c.un, v1, os, vs, _, _, rfl, h4, k1, fun o o' v H' ko so => hK _ _ _ _ ko ?_, fun C fs ts d H' z so => hZ _ _ _ _ _ _ z (by simpa using back [_] [_] H' so)⟩
      have s5 := back [some o, some o'] [some v, some v1] H' so
      -- the changed one back to its slot
      have s6 : Sim X.K B Wd (some (c.re o') :: some o :: (fr ++ ρ1.set j none)) (some v1 :: some v :: (frv ++ σ)) H' := by
        have s7 : Sim X.K B Wd (some o' :: some o :: (fr ++ ρ1.set j none)) (some v1 :: some v :: (frv ++ σ)) H' := Sim.rot (l1 := [some o]) (v1 := [some v]) rfl (by simpa using s5)
        cases c with
        | io vc oc =>
          obtain ⟨B3, Wd3, _, h7, back3⟩ := Sim.front (as := [o']) (va := [v1]) rfl s7
          have evc : v1 = vc := by
            obtain ⟨S9, f9, _, _, _, ⟨w9, r9, f1, f2, ew, ⟨evv, _⟩, _⟩, _⟩ := h2
            cases ew
            exact evv
          refine back3 [.io vc o'] [v1] H' ?_
          obtain ⟨S8, f8, g1, g2, g3, g4, g5⟩ := h7
          obtain ⟨w8, ew8, ow8⟩ := Owns.of_one g4
          cases ew8
          exact ⟨S8, f8, g1, g2, g3, Owns.one ⟨evc, ow8⟩, g5⟩
        | _ => exact s7
      have s8 := s6.put (fr.length + j + 1)
      have e1 : (some o :: (fr ++ ρ1.set j none)).set (fr.length + j + 1) (some (c.re o')) = some o :: (fr ++ ρ1.set j (some (c.re o'))) := by
        rw [List.set_cons_succ, set_app, List.set_set]
      have e2 : (some v :: (frv ++ σ)).set (fr.length + j + 1) (some v1) = some v :: (frv ++ σ) := by
        rw [List.set_cons_succ, hl, set_app, set_id hv0]
      rw [e1, e2] at s8
      exact s8
end

/-! ### defs -/
section
variable {P : Program} {w : World} {K : PySem.W.Frag} {mg : Str → Option Value} {base : Heap} {x : Str} {st : Stmt} {N ps : List Str} {k : Nat}
/-- the context of such a def's body -/
abbrev cxD (P : Program) (w : World) (K : PySem.W.Frag) (mg : Str → Option Value) (base : Heap) (N : List Str) (x : Str) (st : Stmt) (cdv : Value) (A : Around) (outer : List Env) (s : Shared) (H : Hp) (E : XK) : Cx :=
  cxOf (L2N.CX P w) P w K mg base N x (defScope st) (He.ga K x) cdv A outer s H E
abbrev wD (E : XK) : L2.WX := fun cls d _ H => E cls d H
theorem start_sim {B Wd : Hp} {os : List O} {vs : List V} {H : Hp} (h : Sim K B Wd (os.map some) (vs.map some) H) (m : Nat) : Sim K B Wd (os.map some ++ List.replicate m none) (vs.map some ++ List.replicate m none) H := by
  have hl : os.length = vs.length := by have := h.len; simpa using this
  refine h.via (fun i => i) (fun _ _ _ _ h => h) (by simp [hl]) fun i o e => ?_
  by_cases hi : i < os.length
  · rw [List.getElem?_append_left (by simpa using hi)] at e
    exact ⟨e, fun v q => by rw [List.getElem?_append_left (by simp; omega)]; exact q⟩
  · rw [List.getElem?_append_right (by simp; omega)] at e
    obtain ⟨h1, h2⟩ := List.getElem?_eq_some_iff.mp e
    rw [List.getElem_replicate] at h2
    cases h2
/-- THE RULE for a def that changes nothing that its caller has -/
theorem fn_P {g : PF} (F : Df K mg x st ps) (S : FnScope N ps (defScope st)) (ar : ∀ os K0 Z0, g os K0 Z0 → os.length = ps.length)
    (hbody : ∀ (cdv : Value) (A : Around) (outer : List Env) (s : Shared) (H : Hp) (E : XK), Room k (cxD P w K mg base N x st cdv A outer s H E).A → Takes (cxD P w K mg base N x st cdv A outer s H E) (wD E) →
      ∃ xs, PSst (cxD P w K mg base N x st cdv A outer s H E) (wD E) (defBody st) xs ∧ ∀ os K0 Z0, g os K0 Z0 → xs { nx := fun _ => K0 (.sh .non), rt := fun o _ => K0 o, ex := fun C fs ts _ => Z0 C fs ts } (os.map some ++ List.replicate (N.length - os.length) none)) :
    Fn1 P w K mg base (k + 1) x ps (spP K g) := by
  obtain ⟨fd, fD, bd⟩ := F.fd
  refine ⟨F.mgx, fD.kp, fd, bd, fD.ok S (fun vs H Q E h => ?_) fun cdv A outer s H vs Q E hr h => ?_⟩
  · obtain ⟨B, Wd, os, K0, Z0, h1, h2, _⟩ := h
    have := h1.len
    simp at this
    rw [← this]
    exact ar _ _ _ h2
  · obtain ⟨xs, t, q⟩ := hbody cdv A outer s H E hr (L2N.takes_of rfl rfl rfl rfl)
    obtain ⟨B, Wd, os, K0, Z0, h1, h2, h3, h4⟩ := h
    have hle : os.length = vs.length := by have := h1.len; simpa using this
    refine ⟨_, t, B, Wd, [], [], _, _, rfl, ?_, q os K0 Z0 h2, fun ρ' σ' H' k' s' => h3 _ _ _ k' ?_, fun _ _ _ z => z.elim, fun _ _ _ z => z.elim, fun o ρ' v σ' H' k' s' => h3 _ _ _ k' ?_, fun σ' C fs ts ρ' d H' z s' => h4 C fs ts d H' z ?_⟩
    · have h5 := start_sim h1 (N.length - os.length)
      rw [hle] at h5 ⊢
      exact h5
    · have h6 : Sim K B Wd [] [] H' := by
        refine Sim.via s' (fun i => i) (fun _ _ _ _ h => h) rfl fun i o e => by simp at e
      exact h6.push fun _ => rfl
    · refine Sim.via s' (fun i => i) (fun _ _ _ _ h => h) rfl fun i o e => ?_
      cases i with
      | zero => exact ⟨by simpa using e, fun v q => by simpa using q⟩
      | succ i => simp at e
    · refine Sim.via s' (fun i => i) (fun _ _ _ _ h => h) rfl fun i o e => ?_
      cases i with
      | zero => exact ⟨by simpa using e, fun v q => by simpa using q⟩
      | succ i => simp at e
/-- THE RULE for a def that changes its first argument, which stands in slot 0 all the time -/
theorem fn_I {g : IF} (F : Df K mg x st ps) (S : FnScope N ps (defScope st)) (ar : ∀ o os K0 Z0, g o os K0 Z0 → os.length + 1 = ps.length)
    (hbody : ∀ (cdv : Value) (A : Around) (outer : List Env) (s : Shared) (H : Hp) (E : XK), Room k (cxD P w K mg base N x st cdv A outer s H E).A → Takes (cxD P w K mg base N x st cdv A outer s H E) (wD E) →
      ∃ xs, PSst (cxD P w K mg base N x st cdv A outer s H E) (wD E) (defBody st) xs ∧ ∀ v0 o0 os K0 Z0, g o0 os K0 Z0 →
        xs { nx := fun ρ => ∃ o', ρ[0]? = some (some (.io v0 o')) ∧ K0 (.sh .non) o', rt := fun o ρ => ∃ o', ρ[0]? = some (some (.io v0 o')) ∧ K0 o o', ex := fun C fs ts _ => Z0 C fs ts } (some (.io v0 o0) :: os.map some ++ List.replicate (N.length - os.length - 1) none)) :
    Fn1 P w K mg base (k + 1) x ps (spI K g) := by
  obtain ⟨fd, fD, bd⟩ := F.fd
  refine ⟨F.mgx, fD.kp, fd, bd, fD.ok S (fun vs H Q E h => ?_) fun cdv A outer s H vs Q E hr h => ?_⟩
  · obtain ⟨B, Wd, o0, v0, os, us, K0, Z0, rfl, h1, h2, _⟩ := h
    have := h1.len
    simp at this
    rw [List.length_cons, ← this]
    exact ar _ _ _ _ h2
  · obtain ⟨xs, t, q⟩ := hbody cdv A outer s H E hr (L2N.takes_of rfl rfl rfl rfl)
    obtain ⟨B, Wd, o0, v0, os, us, K0, Z0, rfl, h1, h2, h3, h4⟩ := h
    have hle : os.length = us.length := by have := h1.len; simpa using this
    have fin : ∀ {o o' : O} {v : V} {ρ' : R} {σ' : L2.St} {H' : Hp}, Sim K B Wd (some o :: ρ') (some v :: σ') H' → ρ'[0]? = some (some (.io v0 o')) → Sim K B Wd [some o, some o'] [some v, some v0] H' := fun {o o' v ρ' σ' H'} s' e' => by
      obtain ⟨r, rfl⟩ : ∃ r, ρ' = some (.io v0 o') :: r := by
        cases ρ' with
        | nil => simp at e'
        | cons a r => simp at e'; exact ⟨r, by rw [e']⟩
      cases σ' with
      | nil => have := s'.len; simp at this
      | cons b σ' =>
        have s2 : Sim K B Wd ([some o, some (.io v0 o')] ++ r) ([some v, b] ++ σ') H' := s'
        have s3 : Sim K B Wd [some o, some (.io v0 o')] [some v, b] H' := by
          refine Sim.via s2 (fun i => i) (fun _ _ _ _ h => h) rfl fun i o e => ?_
          match i, e with
          | 0, e => exact ⟨by simpa using e, fun v q => by simpa using q⟩
          | 1, e => exact ⟨by simpa using e, fun v q => by simpa using q⟩
          | i + 2, e => simp at e
        obtain ⟨S1, fp1, m1⟩ := s3
        obtain ⟨v1, e1, ow⟩ := m1.own 1 _ rfl
        have eb : b = some v1 := by simpa using e1
        subst eb
        obtain ⟨ev, ow2⟩ := ow
        subst ev
        refine ⟨S1, fp1, m1.bs, m1.sh, m1.wd, rfl, fun i o2 e2 => ?_, m1.nd, m1.dj, m1.sn, m1.hn, m1.ws, m1.wf⟩
        match i, e2 with
        | 0, e2 => simpa using m1.own 0 o2 (by simpa using e2)
        | 1, e2 =>
          have : o' = o2 := by simpa using e2
          subst this
          exact ⟨v1, rfl, ow2⟩
        | i + 2, e2 => simp at e2
    refine ⟨_, t, B, Wd, [], [], _, _, rfl, ?_, q v0 o0 os K0 Z0 h2, fun ρ' σ' H' ⟨o', e', k'⟩ s' => h3 _ _ _ _ k' ?_, fun _ _ _ z => z.elim, fun _ _ _ z => z.elim, fun o ρ' v σ' H' ⟨o', e', k'⟩ s' => h3 _ _ _ _ k' (fin s' e'), fun σ' C fs ts ρ' d H' z s' => h4 C fs ts d H' z ?_⟩
    · have h1' : Sim K B Wd ((.io v0 o0 :: os).map some) ((v0 :: us).map some) H := by
        obtain ⟨S1, fp1, m1⟩ := h1
        refine ⟨S1, fp1, m1.bs, m1.sh, m1.wd, m1.len, fun i o2 e2 => ?_, m1.nd, m1.dj, m1.sn, m1.hn, m1.ws, m1.wf⟩
        cases i with
        | zero =>
          have : O.io v0 o0 = o2 := by simpa using e2
          subst this
          obtain ⟨v1, e1, ow⟩ := m1.own 0 o0 rfl
          have ev : v0 = v1 := by simpa using e1
          subst ev
          exact ⟨v0, rfl, rfl, ow⟩
        | succ i => exact m1.own (i + 1) o2 (by simpa using e2)
      have h5 := start_sim h1' (N.length - (os.length + 1))
      have e9 : N.length - os.length - 1 = N.length - (us.length + 1) := by omega
      rw [hle] at h5
      rw [e9]
      exact h5
    · exact fin (s'.push fun _ => rfl) e'
    · refine Sim.via s' (fun i => i) (fun _ _ _ _ h => h) rfl fun i o e => ?_
      cases i with
      | zero => exact ⟨by simpa using e, fun v q => by simpa using q⟩
      | succ i => simp at e
end
end TL

namespace TL
open PySem PySem.Spec PyProof.Rows L2
/-! ### list comprehensions -/
def wipeR (ρ : R) : List Nat → R
  | [] => ρ
  | v :: vs => (wipeR ρ vs).set v none
theorem wipeR_len (ρ : R) : ∀ vs, (wipeR ρ vs).length = ρ.length
  | [] => rfl
  | v :: vs => by unfold wipeR; rw [List.length_set, wipeR_len ρ vs]
theorem wipeR_some {ρ : R} {i : Nat} {o : O} : ∀ {vs : List Nat}, (wipeR ρ vs)[i]? = some (some o) → ρ[i]? = some (some o) ∧ i ∉ vs
  | [], h => ⟨h, by simp⟩
  | v :: vs, h => by
    unfold wipeR at h
    by_cases e : v = i
    · subst e
      rw [List.getElem?_set] at h
      simp at h
    · rw [List.getElem?_set_ne e] at h
      obtain ⟨a, b⟩ := wipeR_some h
      exact ⟨a, by simp [b, Ne.symm e]⟩
theorem wipe_get {σ : L2.St} {i : Nat} : ∀ {vs : List Nat}, i ∉ vs → (wipe σ vs)[i]? = σ[i]?
  | [], _ => rfl
  | v :: vs, h => by
    unfold wipe
    rw [List.getElem?_set_ne fun z => h (by simp [z]), wipe_get fun z => h (by simp [z])]
theorem wipe_at {σ : L2.St} {i : Nat} : ∀ {vs : List Nat}, i ∈ vs → i < σ.length → (wipe σ vs)[i]? = some none
  | [], h, _ => by simp at h
  | v :: vs, h, hl => by
    unfold wipe
    by_cases e : v = i
    · subst e
      rw [List.getElem?_set_self (by rw [wipe_length]; exact hl)]
    · rw [List.getElem?_set_ne e]
      exact wipe_at (by simpa [Ne.symm e] using h) hl
theorem wipe_eq {σ σ' : L2.St} {vs sl : List Nat} (h : But sl (wipe σ vs) σ') (hs : ∀ i ∈ sl, i ∈ vs) : wipe σ' vs = wipe σ vs := by
  have hl : σ'.length = σ.length := by have := h.1; rw [wipe_length] at this; exact this
  apply List.ext_getElem?
  intro i
  by_cases hi : i ∈ vs
  · by_cases hlt : i < σ.length
    · rw [wipe_at hi hlt, wipe_at hi (by omega)]
    · rw [List.getElem?_eq_none (by rw [wipe_length]; omega), List.getElem?_eq_none (by rw [wipe_length]; omega)]
  · rw [wipe_get hi, wipe_get hi, h.2 i fun z => hi (hs i z), wipe_get hi]
def noZ : ZC := fun _ _ _ _ => False
abbrev W0 : L2.WX := fun _ _ _ _ => False
/-- [elt for target in iter if test]: I by the turn, the items made so far and the slots -/
def xLc (it : XI) (g : XG) (tt : XT) (x : XE) (own : List Nat) : XE := fun ρ K Z => it ρ (fun ts ρ1 => ∃ I : Nat → List O → R → Prop, I 0 [] (wipeR ρ1 own) ∧
  (∀ i t acc ρ, ts[i]? = some t → I i acc ρ → g (.sh t) ρ fun ρ2 => tt ρ2 (fun b ρ3 => if b = true then x ρ3 (fun o ρ4 => acc.length < sizeLine ∧ I (i + 1) (acc ++ [o]) (wipeR ρ4 own)) noZ else I (i + 1) acc (wipeR ρ3 own)) noZ) ∧
  ∀ acc ρ, I ts.length acc ρ → K (.lst acc) ρ) Z
def xYes : XT := fun ρ K _ => K true ρ
section
variable {K : PySem.W.Frag} {B Wd H : Hp} {fr ρ : R} {frv σ : L2.St}
theorem Sim.wiped {own : List Nat} (hl : fr.length = frv.length) (h : Sim K B Wd (fr ++ ρ) (frv ++ σ) H) : Sim K B Wd (fr ++ wipeR ρ own) (frv ++ wipe σ own) H := by
  have hr := Sim.app_len hl h
  refine h.via (fun i => i) (fun _ _ _ _ h => h) (by simp [wipeR_len, wipe_length, hl, hr]) fun i o e => ?_
  by_cases hi : i < fr.length
  · rw [List.getElem?_append_left hi] at e
    refine ⟨by rw [List.getElem?_append_left hi]; exact e, fun v q => ?_⟩
    rw [List.getElem?_append_left (by omega)] at q ⊢
    exact q
  · rw [List.getElem?_append_right (by omega)] at e
    obtain ⟨e1, e2⟩ := wipeR_some e
    refine ⟨by rw [List.getElem?_append_right (by omega)]; exact e1, fun v q => ?_⟩
    rw [List.getElem?_append_right (by omega), ← hl] at q ⊢
    rw [wipe_get e2]
    exact q
theorem Sim.unwiped {own : List Nat} (hl : fr.length = frv.length) (h : Sim K B Wd (fr ++ ρ) (frv ++ wipe σ own) H) : Sim K B Wd (fr ++ ρ) (frv ++ σ) H := by
  have hr := Sim.app_len hl h
  rw [wipe_length] at hr
  obtain ⟨S, fp, s⟩ := h
  refine ⟨S, fp, s.bs, s.sh, s.wd, by simp [hl, hr], fun i o e => ?_, s.nd, s.dj, s.sn, s.hn, s.ws, s.wf⟩
  obtain ⟨v, h1, h2⟩ := s.own i o e
  refine ⟨v, ?_, h2⟩
  by_cases hi : i < fr.length
  · rw [List.getElem?_append_left (by omega)] at h1 ⊢
    exact h1
  · rw [List.getElem?_append_right (by omega)] at h1 ⊢
    exact (wipe_some h1).1
/-- the state behind a turn: the block's own names forgotten -/
theorem Sim.turned {own : List Nat} {σ0 : L2.St} (hl : fr.length = frv.length) (e : wipe σ own = wipe σ0 own) (h : Sim K B Wd (fr ++ ρ) (frv ++ σ) H) : Sim K B Wd (fr ++ wipeR ρ own) (frv ++ wipe σ0 own) H := by
  rw [← e]
  exact h.wiped hl
theorem Sim.appFront {acc : List O} {o : O} {v : V} {D : Addr} {os : R} {vs : L2.St} (h : Sim K B Wd (some o :: some (.lst acc) :: os) (some v :: some (.ref D) :: vs) H) :
    ∃ ws, H D = some (.lst ws) ∧ acc.length = ws.length ∧ Sim K B Wd (some (.lst (acc ++ [o])) :: os) (some (.ref D) :: vs) (upd H D (.lst (ws ++ [v]))) := by
  have h1 : Sim K B Wd (some (.lst acc) :: some o :: os) (some (.ref D) :: some v :: vs) H := Sim.rot (l1 := [some o]) (v1 := [some v]) rfl h
  obtain ⟨B', Wd', _, h2, back⟩ := Sim.front (as := [.lst acc, o]) (va := [.ref D, v]) rfl h1
  obtain ⟨ws, e1, e2, up⟩ := h2.setL
  refine ⟨ws, e1, e2, back [_] [_] _ (up (acc ++ [o]) [] (ws ++ [v]) [] fun H' S f g _ o1 o2 => ⟨f ++ g, [], [], o1.app o2, ⟨rfl, rfl⟩, by simp⟩)⟩
end
section
variable {X : Cx} {W : L2.WX} {e elt tg iter : Expr} {ifs : List Expr} {scope : Scope} {own : List (Str × Nat)} {pos p : Pos} {x : XE} {it : XI} {g : XG} {tt : XT} {sl : List Nat}
def PTst (X : Cx) (W : L2.WX) (ifs : List Expr) (t : XT) : Prop := PTs X ifs (lT X.K W t)
theorem pts_nil : PTst X W [] xYes := ⟨fun pins s σ H Q I ⟨B, Wd, fr, frv, ρ, K0, Z0, hl, sm, hx, hK, hZ⟩ => L2.pts_nil.run pins s σ H Q I (hK _ _ _ hx sm)⟩
theorem pts_one {c : Expr} {t : XT} (h : PTt X W c t) : PTst X W [c] t := L2.pts_one h
theorem lc_ok (ho : ∀ i ∈ sl, i ∈ own.map (·.2)) {σ : L2.St} {H : Hp} {Q : VK} (h : lE X.K W (xLc it g tt x (own.map (·.2))) σ H Q) : tLc (lI X.K W it) (lG X.K sl g) (lT X.K W0 tt) (lE X.K W0 x) (own.map (·.2)) σ H Q := by
  obtain ⟨B, Wd, fr, frv, ρ, K0, Z0, hl, s, hx, hK, hZ⟩ := h
  refine ⟨B, Wd, fr, frv, ρ, _, Z0, hl, s, hx, fun ts ρ1 S J H1 k1 bs s1 ik => ?_, hZ⟩
  obtain ⟨I, i0, turn, done⟩ := k1
  obtain ⟨G, Y, wk, gk, yk⟩ := ik
  intro D hD
  have noX : ∀ {B Wd fr frv σ}, ExAt X.K B Wd fr frv W0 noZ σ := fun _ _ _ _ _ _ z => z.elim
  refine lc_it wk (fun i H => ∃ acc ρ, Sim X.K S Wd (some (.lst acc) :: (fr ++ ρ)) (some (.ref D) :: (frv ++ wipe σ (own.map (·.2)))) H ∧ I i acc ρ) ⟨[], _, ?_, i0⟩ (fun i H _ ⟨acc, ρ, s, _⟩ => ?_) (fun i y H2 H3 hi ⟨acc, ρ, s, ii⟩ hy => ?_) fun H ⟨acc, ρ, s, ii⟩ => ?_
  · have s2 := s1.wiped (own := own.map (·.2)) hl
    obtain ⟨B', Wd', _, h3, back⟩ := Sim.front (as := []) (va := []) rfl (by simpa using s2)
    exact back [.lst []] [.ref D] _ (h3.newL hD)
  · obtain ⟨S', e1, e2, _⟩ := s.self
    exact gk H (e1.trans e2)
  · obtain ⟨t, et⟩ : ∃ t, ts[i]? = some t := ⟨ts[i], List.getElem?_eq_getElem hi⟩
    have s3 := yk i t H2 y H3 S _ _ et hy (Same.refl _) s
    refine ⟨S, Wd, some (.lst acc) :: fr, some (.ref D) :: frv, ρ, .sh t, _, by simp [hl], s3, turn i t acc ρ et ii, fun ρ2 σ2 H4 k2 b2 s4 => ?_⟩
    have we : wipe σ2 (own.map (·.2)) = wipe σ (own.map (·.2)) := wipe_eq b2 ho
    refine ⟨we, S, Wd, some (.lst acc) :: fr, some (.ref D) :: frv, ρ2, _, noZ, by simp [hl], s4, k2, fun b ρ3 H5 k3 s5 => ?_, noX⟩
    by_cases hb : b = true
    · rw [if_pos hb] at k3 ⊢
      refine ⟨S, Wd, some (.lst acc) :: fr, some (.ref D) :: frv, ρ3, _, noZ, by simp [hl], s5, k3, fun o ρ4 v H6 k4 s6 => ?_, noX⟩
      obtain ⟨ws, e1, e2, s7⟩ := s6.appFront
      refine ⟨ws, e1, by rw [← e2]; exact k4.1, acc ++ [o], wipeR ρ4 (own.map (·.2)), ?_, k4.2⟩
      exact Sim.turned (fr := some (.lst (acc ++ [o])) :: fr) (frv := some (.ref D) :: frv) (σ := σ2) (σ0 := σ) (by simp [hl]) we s7
    · rw [if_neg hb] at k3 ⊢
      exact ⟨acc, _, Sim.turned (fr := some (.lst acc) :: fr) (frv := some (.ref D) :: frv) (σ := σ2) (σ0 := σ) (by simp [hl]) we s5, k3⟩
  · exact hK _ _ _ _ (done acc ρ ii) (Sim.rebase bs (Sim.unwiped (fr := some (.lst acc) :: fr) (frv := some (.ref D) :: frv) (by simp [hl]) s))
theorem pe_lc (hc : X.calm = true) (hN : X.N.Nodup) (hi : PIt X W tg iter it) (ok : BlkOk X.N X.env.scope scope own) (ho : ∀ i ∈ sl, i ∈ own.map (·.2))
    (hg : ∀ (s : Shared) (H : Hp) (C : Addr) (cl : List (Str × Addr)) (fp : List Addr), PGt (X.blk s H scope (compEnvC scope cl C X.env) fp) sl tg g) (ht : ∀ (s : Shared) (H : Hp) (C : Addr) (cl : List (Str × Addr)) (fp : List Addr), PTst (X.blk s H scope (compEnvC scope cl C X.env) fp) W0 ifs tt)
    (he : ∀ (s : Shared) (H : Hp) (C : Addr) (cl : List (Str × Addr)) (fp : List Addr), PEt (X.blk s H scope (compEnvC scope cl C X.env) fp) W0 elt x) (hs : ∀ x, foldedSetIterable iter X.env x = pure x := by intro _; rfl) :
    PEt X W (.ListComp elt [⟨tg, iter, ifs, 0⟩] scope pos) (xLc it g tt x (own.map (·.2))) :=
  PE.imp (L2.pe_lc (g := lG X.K sl g) (tt := lT X.K W0 tt) (te := lE X.K W0 x) hc hN hi ok hg ht he hs) fun σ H Q h => lc_ok ho h
theorem ps_setLc (i : Nat) {n : Str} {py spos : Pos} (hc : X.calm = true) (hN : X.N.Nodup) (hi : PIt X W tg iter it) (ok : BlkOk X.N X.env.scope scope own) (ho : ∀ i ∈ sl, i ∈ own.map (·.2))
    (hg : ∀ (s : Shared) (H : Hp) (C : Addr) (cl : List (Str × Addr)) (fp : List Addr), PGt (X.blk s H scope (compEnvC scope cl C X.env) fp) sl tg g) (ht : ∀ (s : Shared) (H : Hp) (C : Addr) (cl : List (Str × Addr)) (fp : List Addr), PTst (X.blk s H scope (compEnvC scope cl C X.env) fp) W0 ifs tt)
    (he : ∀ (s : Shared) (H : Hp) (C : Addr) (cl : List (Str × Addr)) (fp : List Addr), PEt (X.blk s H scope (compEnvC scope cl C X.env) fp) W0 elt x)
    (hy : X.N[i]? = some n := by rfl) (hyl : X.env.scope.names.lookup n = some .local := by rfl) (hsw : swapsWith (.ListComp elt [⟨tg, iter, ifs, 0⟩] scope pos) (some (.Name n py)) spos.line X.env = pure true := by exact sw_true rfl rfl rfl (by decide +kernel))
    (hs : ∀ x, foldedSetIterable iter X.env x = pure x := by intro _; rfl) :
    PSt X W (.Assign [.Name n py] (.ListComp elt [⟨tg, iter, ifs, 0⟩] scope pos) spos) (xAsg (xLc it g tt x (own.map (·.2))) (gN i)) :=
  PS.imp (L2.ps_setLc (g := lG X.K sl g) (tt := lT X.K W0 tt) (te := lE X.K W0 x) hc hN hy hyl hsw hi ok hg ht he hs) fun D σ H ⟨B, Wd, fr, frv, ρ, D0, hl, s, hx, q1, q2, q3, q4, q5⟩ =>
    lc_ok (W := W) (Q := fun v H1 => L2.gName i v σ H1 D.nx) ho ⟨B, Wd, fr, frv, ρ, _, _, hl, s, hx, fun o ρ1 v H1 k1 e1 => q1 _ _ _ k1 (e1.setAt hl i), q5 σ⟩
end
end TL

namespace TL
open PySem PySem.Spec PyProof.Rows L2
/-! ### an owned list read and stored by place -/
/-- x[e], an item that is shared; the list stays owned -/
def xIxN (j : Nat) (x : XE) : XE := fun ρ K Z => (∃ c, ρ[j]? = some (some c)) ∧ x ρ (fun o ρ1 => match slotL ρ1 j, o.t with
  | some (c, os), .int i => (match atI os i with
    | some (.sh t) => K (.sh t) ρ1
    | _ => False)
  | _, _ => False) Z
/-- x[e] = o -/
def gIxN (j : Nat) (x : XE) : XG := fun o ρ K => (∃ c, ρ[j]? = some (some c)) ∧ x ρ (fun oi ρ1 => match slotL ρ1 j, oi.t with
  | some (c, os), .int i => (match ixN os.length i with
    | some k => K (putL ρ1 j c (os.set k o))
    | none => False)
  | _, _ => False) noZ
section
variable {K : PySem.W.Frag} {B Wd S H : Hp} {os : List O} {vs : List V} {fp : List Addr}
theorem Owns.at {i : Nat} {t : T} : ∀ {os : List O} {vs : List V} {fp : List Addr} {i : Nat}, Owns K H S os vs fp → os[i]? = some (.sh t) → ∃ v, vs[i]? = some v ∧ Rep K S t v
  | [], _, _, _, _, e => by simp at e
  | o :: os, _, _, 0, h, e => by
    obtain ⟨v, r, f1, f2, rfl, h2, h3, _⟩ := h
    simp at e
    subst e
    exact ⟨v, rfl, h2.2⟩
  | o :: os, _, _, i + 1, h, e => by
    obtain ⟨v, r, f1, f2, rfl, h2, h3, _⟩ := h
    obtain ⟨w, e1, e2⟩ := Owns.at (i := 0) h3 (by simpa using e)
    exact ⟨w, by simpa using e1, e2⟩
theorem atI_len {α β : Type} {xs : List α} {ys : List β} (hl : xs.length = ys.length) {i : Int} {x : α} (h : atI xs i = some x) : ∃ k : Nat, xs[k]? = some x ∧ ∀ y, ys[k]? = some y → atI ys i = some y := by
  unfold L2.atI at h ⊢
  rw [← hl]
  cases q : ixN xs.length i with
  | none => rw [q] at h; cases h
  | some k => rw [q] at h; exact ⟨k, h, fun y e => e⟩
theorem slot_own {fr ρ : R} {frv σ : L2.St} {j : Nat} {c : O} (hl : fr.length = frv.length) (h : Sim K B Wd (fr ++ ρ) (frv ++ σ) H) (e : ρ[j]? = some (some c)) :
    ∃ S fp v, Sm K B Wd (fr ++ ρ) (frv ++ σ) H S fp ∧ σ[j]? = some (some v) ∧ Own K H S c v (fp (fr.length + j)) := by
  obtain ⟨S, fp, s⟩ := h
  obtain ⟨v, e1, e2⟩ := s.own (fr.length + j) c (by rw [get_app]; exact e)
  rw [hl, get_app] at e1
  exact ⟨S, fp, v, s, e1, e2⟩
theorem Own.unL {c : O} {v : V} (h : Own K H S c v fp) (e : c.un = .lst os) : ∃ a vs fq, v = .ref a ∧ H a = some (.lst vs) ∧ Owns K H S os vs fq := by
  cases c with
  | io v0 o =>
    have e' : o = .lst os := e
    subst e'
    obtain ⟨_, a, vs, fq, h1, h2, h3, _⟩ := h
    exact ⟨a, vs, fq, h1, h2, h3⟩
  | lst o =>
    have e' : O.lst o = .lst os := e
    cases e'
    obtain ⟨a, vs, fq, h1, h2, h3, _⟩ := h
    exact ⟨a, vs, fq, h1, h2, h3⟩
  | _ => cases e
end
section
variable {X : Cx} {W : L2.WX} {a b c e e1 e2 : Expr} {es : List Expr} {xa xb x : XE} {y : XA} {pos p apos cpos : Pos} {n : Str} {g : XG}
theorem pe_ixN (j : Nat) (hb : PEt X W b xb) (hs : PlainIx b)
    (hN : X.N[j]? = some n := by rfl) (hv : Vis X.env.scope n := by first | exact Or.inl rfl | exact Or.inr (Or.inl rfl) | exact Or.inr (Or.inr rfl)) (hd : (n == ("__debug__" : Str)) = false := by decide) (hcd : (n == ("__classdict__" : Str)) = false := by decide) :
    PEt X W (.Subscript (.Name n p) b pos) (xIxN j xb) :=
  PE.imp (L2.pe_ix ix_list (pe_var (i := j) hN hv hd hcd) hb hs) fun σ H Q ⟨B, Wd, fr, frv, ρ, K0, Z0, hl, s, hx, hK, hZ⟩ => by
    obtain ⟨⟨c0, hc0⟩, hx⟩ := hx
    obtain ⟨_, _, v0, _, hv0, _⟩ := slot_own hl s hc0
    refine ⟨v0, hv0, B, Wd, fr, frv, ρ, _, Z0, hl, s, hx, fun o ρ1 vi H1 k1 s1 => ?_, hZ⟩
    split at k1
    · rename_i c os i hsl hi
      obtain ⟨q1, q2⟩ := slotL_some hsl
      obtain ⟨S, fp, sm⟩ := id s1
      obtain ⟨v1, hv1, ow⟩ := sm.own (fr.length + j + 1) c (by
        rw [List.getElem?_cons_succ, get_app]
        exact q1)
      rw [List.getElem?_cons_succ, hl, get_app, hv0] at hv1
      cases hv1
      obtain ⟨a, vs, fq, rfl, ha, ows⟩ := ow.unL q2
      obtain ⟨vi', e1, ri⟩ := sm.own 0 o rfl
      cases e1
      have k1 : (match atI os i with | some (.sh t) => K0 (.sh t) ρ1 | _ => False) := k1
      cases hat : atI os i with
      | none => rw [hat] at k1; exact k1.elim
      | some ot =>
        rw [hat] at k1
        cases ot <;> first
          | exact k1.elim
          | skip
        rename_i t
        obtain ⟨k, e2, e3⟩ := atI_len (Owns.len ows).1 hat
        obtain ⟨v, e4, rp⟩ := Owns.at (i := 0) (t := t) ows e2
        have hvi : vi = .int i := by
          obtain ⟨S2, _, _, rr⟩ := s1.rep
          rw [hi] at rr
          exact rr
        refine ⟨a, vs, i, v, rfl, hvi, SqL.of ha, e3 v e4, hK _ _ _ _ k1 ?_⟩
        exact (Sim.drop2 (a := some (.sh t)) (va := some v) ⟨S, _, sm.push rp⟩)
    · exact k1.elim
theorem pg_ixN (j : Nat) (hb : PEt X W0 b xb)
    (hN : X.N[j]? = some n := by rfl) (hv : Vis X.env.scope n := by first | exact Or.inl rfl | exact Or.inr (Or.inl rfl) | exact Or.inr (Or.inr rfl)) (hd : (n == ("__debug__" : Str)) = false := by decide) (hcd : (n == ("__classdict__" : Str)) = false := by decide)
    (ha : ∀ v, assign (.Subscript (.Name n p) b pos) X.env v = (do
      let ov ← holding [v] (eval (.Name n p) X.env)
      let iv ← holding [v, ov] (eval b X.env)
      standAt pos
      holding [v, ov, iv] (setItem ov iv v)
      release [v, ov, iv] []) := by intro _; rfl) :
    PGt X [] (.Subscript (.Name n p) b pos) (gIxN j xb) :=
  PG.imp (pg_sub (pe_var (i := j) hN hv hd hcd) hb set_list ha) fun v σ H Q ⟨B, Wd, fr, frv, ρ, o, K0, hl, s, hg, hQ⟩ => by
    obtain ⟨⟨c0, hc0⟩, hg⟩ := hg
    obtain ⟨_, _, v0, _, hv0, _⟩ := slot_own (fr := some o :: fr) (frv := some v :: frv) (by simp [hl]) s hc0
    refine ⟨v0, hv0, B, Wd, some o :: fr, some v :: frv, ρ, _, noZ, by simp [hl], s, hg, fun oi ρ1 vi H1 k1 s1 => ?_, fun _ _ _ _ _ _ z => z.elim⟩
    split at k1
    · rename_i c os i hsl hi
      obtain ⟨q1, q2⟩ := slotL_some hsl
      have hvi : vi = .int i := by
        obtain ⟨S2, _, _, rr⟩ := s1.rep
        rw [hi] at rr
        exact rr
      have k1 : (match ixN os.length i with | some k => K0 (putL ρ1 j c (os.set k o)) | none => False) := k1
      cases hk : ixN os.length i with
      | none => rw [hk] at k1; exact k1.elim
      | some k =>
        rw [hk] at k1
        have s2 : Sim X.K B Wd ([o].map some ++ (fr ++ ρ1)) ([v].map some ++ (frv ++ σ)) H1 := by simpa using s1.drop
        obtain ⟨a, vs, ea, ha', hlen, up⟩ := Sim.listAt s2 hl rfl q1 q2
        rw [hv0] at ea
        cases ea
        refine ⟨a, vs, i, k, rfl, hvi, ha', by rw [← hlen]; exact hk, hQ _ _ _ k1 ⟨rfl, fun _ _ => rfl⟩ ?_⟩
        have hkl : k < os.length := (ixN_seqL hk).2
        have h9 := up (os.set k o) [] (vs.set k v) [] rfl fun H' S f g hS o1 o2 => by
          have hsp := split_at (List.getElem?_eq_getElem hkl)
          obtain ⟨w, r, f5, f6, ew, oa, ob, rfl⟩ := o2
          cases ew
          obtain ⟨_, rfl⟩ := ob
          rw [hsp] at o1
          obtain ⟨v1, v2, f1, f2, rfl, rfl, oc, od⟩ := o1.split
          obtain ⟨w, r, f3, f4, rfl, oe, og, rfl⟩ := od
          have hv1 : v1.length = k := by rw [← (Owns.len oc).1, List.length_take]; omega
          have e1 : os.set k o = os.take k ++ o :: os.drop (k + 1) := by
            rw [List.set_eq_take_append_cons_drop, if_pos hkl]
          have e2 : (v1 ++ w :: r).set k v = v1 ++ v :: r := by
            rw [List.set_append_right _ _ (by omega), hv1]
            simp
          rw [e1, e2]
          refine ⟨f1 ++ (f5 ++ f4), [], f3, oc.app ⟨v, r, f5, f4, rfl, oa, og, rfl⟩, ⟨rfl, rfl⟩, ?_⟩
          simp only [List.append_nil, List.append_assoc]
          refine List.Perm.append_left _ ?_
          have p1 : (f3 ++ (f4 ++ f5)).Perm ((f4 ++ f5) ++ f3) := List.perm_append_comm
          refine p1.trans ?_
          rw [← List.append_assoc]
          exact List.Perm.append_right _ List.perm_append_comm
        simpa [putL] using h9
    · exact k1.elim

/-! ### the written part's table of text keys -/
/-- at the module's name nm a dict with text keys and these trees -/
structure Tab (K : PySem.W.Frag) (w : World) (mg : Str → Option Value) (nm : Str) (d : Addr) (kvs : List (Str × T)) : Prop where
  mgx : mg nm = some (.ref d)
  kd : ∃ es n, KDict K w d es n
  at_ : ∀ z t, kvs.lookup z = some t → ∃ u v, PySem.W.nsIn K d z = some (some u) ∧ RelV v u ∧ ∀ S, Rep K S t v
def xTab (kvs : List (Str × T)) (x : XE) : XE := fun ρ K Z => x ρ (fun o ρ1 => match o.t with
  | .str z => (match kvs.lookup z with
    | some t => K (.sh t) ρ1
    | none => False)
  | _ => False) Z
theorem ix_kd {d : Addr} {es : Array DictEntry} {m : Nat} (D : KDict X.K X.w d es m) : IxR X (fun x y H Q => ∃ (z : Str) (u0 : Value) (v0 : V), x = .ref d ∧ y = .str z ∧ PySem.W.nsIn X.K d z = some (some u0) ∧ RelV v0 u0 ∧ Q v0 H) := by
  intro value slice pins s σ H x y v u Q I rx ry h hs
  have h2 := op_item_kd D pins s σ H x y v u Q I rx ry h
  obtain ⟨z, u0, v0, rfl, rfl, _⟩ := h
  obtain rfl : v = Value.ref d := rx
  exact tail_any (kd_type D I) PySem.F.slot_dict_getitem.lookup h2 hs
theorem pe_tab {kvs : List (Str × T)} (D : ∃ d, Tab X.K X.w X.mg n d kvs) (hg : Gl X n) (hb : PEt X W b xb) (hs : PlainIx b) (hdb : (n == ("__debug__" : Str)) = false := by decide) : PEt X W (.Subscript (.Name n p) b pos) (xTab kvs xb) := by
  obtain ⟨d, D⟩ := D
  obtain ⟨es, m, kd⟩ := D.kd
  refine PE.imp (L2.pe_ix (ix_kd kd) (L2.pe_glob (v := .ref d) hg D.mgx rfl hdb) hb hs) fun σ H Q ⟨B, Wd, fr, frv, ρ, K0, Z0, hl, s, hx, hK, hZ⟩ => ⟨B, Wd, fr, frv, ρ, _, Z0, hl, s, hx, fun o ρ1 vi H1 k1 s1 => ?_, hZ⟩
  obtain ⟨S2, _, _, rr⟩ := s1.rep
  cases hi : o.t <;> rw [hi] at k1 rr <;> first
    | exact (show False from k1).elim
    | skip
  rename_i z
  have k1 : (match kvs.lookup z with | some t => K0 (.sh t) ρ1 | none => False) := k1
  cases hz : kvs.lookup z with
  | none => rw [hz] at k1; exact k1.elim
  | some t =>
    rw [hz] at k1
    obtain ⟨u, v, e1, e2, e3⟩ := D.at_ z t hz
    exact ⟨z, u, v, rfl, rr, e1, e2, hK _ _ _ _ k1 (s1.drop.push e3)⟩
end
end TL

/-! enumerate of a tuple -/
namespace TL
open PySem PySem.Spec PyProof.Rows L2
theorem meets_enum1 {v : Value} {o : Obj} {H : Heap → Prop} (B : Begins v o H) :
    Meets (Builtin.«enumerate.__new__» ⟨[.type "enumerate", v], []⟩) (fun _ R s => H s.heap ∧
      R (.ok (.ret (.ref (s.heap.push o).objs.size))) { s with heap := (s.heap.push o).push { cls := .type "enumerate", data := .fields #[.none, .bool false, .ref s.heap.objs.size, rawInt 0, .none, .none] } }) :=
  .of_wp fun prog w A R s h => by
    obtain ⟨hp, g, d, tk, os⟩ := s
    obtain ⟨hh, fin⟩ := h
    have sb := sub_enumerate
    have begin_ : ∀ {A' : Around} {E : Value → Shared → Prop} {Q : Value → Shared → Prop}, Q (.ref hp.objs.size) ⟨hp.push o, g, d, tk, os⟩ → wpAny (model prog w) A' (pyIter v) Q E ⟨hp, g, d, tk, os⟩ :=
      fun z => B.iter prog w _ _ ⟨hp, g, d, tk, os⟩ _ hh z
    wp_walk using begin_
    refine wpAny_stack_any fun st => wpAny_pure ?_
    split
    · rename_i c _ _ _ _ _
      cases (c == Value.type "enumerate")
      · wp_walk using begin_
        exact ⟨_, rfl, fin⟩
      · wp_walk using begin_
        exact ⟨_, rfl, fin⟩
    · wp_walk using begin_
      exact ⟨_, rfl, fin⟩
theorem call_enum1 {prog : Program} {w : World} {A : Around} {E : Value → Shared → Prop} {s : Shared} {v : Value} {o : Obj} {H : Heap → Prop} {Q : Value → Shared → Prop} (B : Begins v o H) (h1 : H s.heap)
    (h : ∀ h', IsEnum h' (s.heap.objs.size + 1) s.heap.objs.size 0 .none → h'.get? s.heap.objs.size = some o → (∀ b u, s.heap.get? b = some u → h'.get? b = some u) → Q (.ref (s.heap.objs.size + 1)) { s with heap := h' }) :
    wpAny (model prog w) A (call (.type "enumerate") [v]) Q E s := by
  have hz : (s.heap.push o).objs.size = s.heap.objs.size + 1 := Heap.size_push ..
  refine callType_new F.called_enumerate (by decide) (F.typeCall_enumerate_1 _) (F.newCall_enumerate_1 _) (fun obj => F.args_object_init_2 obj _) F.entry_enumerate_new (meets_enum1 B) ⟨h1, ?_⟩
  have he := Heap.get?_push_size (s.heap.push o) (o := { cls := .type "enumerate", data := .fields #[.none, .bool false, .ref s.heap.objs.size, rawInt 0, .none, .none] }) rfl
  show _ ∧ _
  rw [hz] at he ⊢
  exact ⟨⟨_, he, rfl⟩, h _ he (Heap.get?_push_of_some _ (Heap.get?_push_size _ B.free)) fun b u x => Heap.get?_push_of_some _ (Heap.get?_push_of_some _ x)⟩
/-- the tuple at a, each item in a new pair -/
def IteT (K : PySem.W.Frag) (a : Addr) : It :=
  ⟨fun i H => ∃ (xs : List V) (x : V), SqT K H a xs ∧ xs[i]? = some x, fun i H v H' => ∃ T x, v = .ref T ∧ H T = none ∧ H' = upd H T (.tup [.int (i : Nat), x]) ∧ ∀ xs, SqT K H a xs → xs[i]? = some x, fun i H => ∃ xs : List V, SqT K H a xs ∧ xs.length ≤ i⟩
theorem turn_enumT {P : Program} {w : World} {K : PySem.W.Frag} {elts : List Expr} {kk : Nat} {tpos : Pos} (a e it : Addr) (hai : a ≠ it) (hae : a ≠ e) :
    Turn P w K (.Tuple elts kk tpos) (IteT K a) [e, it] e (fun i h => (∃ old, IsEnum h e it ((i : Nat) : Int) old) ∧ h.IsTupleIter it a i ∧ e ≠ it) where
  mem := by simp
  obj := fun i h st b hb => by
    obtain ⟨⟨old, he⟩, ⟨o, ho, hc, hd⟩, _⟩ := st
    rcases (show b = e ∨ b = it by simpa using hb) with rfl | rfl
    · exact ⟨_, he, fun v q => nomatch q⟩
    · exact ⟨o, ho, fun v q => by rw [hd] at q; cases q⟩
  keep := fun i h h' st k => let ⟨⟨old, he⟩, hi, hne⟩ := st; ⟨⟨old, k e (by simp) _ he⟩, hi.at fun o q => k it (by simp) o q, hne⟩
  item := by
    intro X hP hw hK hc i pins s σ H E I hf st hg
    subst hP hw hK
    obtain ⟨⟨old, he⟩, hit, hne⟩ := st
    obtain ⟨xs, x, hq, hx⟩ := hg
    obtain ⟨its, rv, p, hz⟩ := I.tuple hq
    obtain ⟨u, hu, ru⟩ := rv.get hx
    have hel : e < s.heap.objs.size := Heap.lt_size he
    have hil : it < s.heap.objs.size := by obtain ⟨_, q, _⟩ := hit; exact Heap.lt_size q
    have hlt : i < its.toArray.size := by
      have := (List.getElem?_eq_some_iff.mp hu).1
      simpa using this
    refine wpAny_pyNext_enum_itemC (Draws.tuple (prog := X.prog) (w := X.w) (A := X.A.in1) (I.ok.hd hc) it a hai its.toArray) he ⟨hit, p⟩ hlt hne (fun z => (List.mem_cons.mp z).elim hne fun z => hae (List.mem_singleton.mp z).symm) fun y h' tk hP ho hst' hT hsz hk => ?_
    have ey : y = u := by
      have h1 : its.toArray[i]? = some y := hP
      rw [List.getElem?_toArray, hu] at h1
      exact (Option.some.inj h1).symm
    subst ey
    refine ⟨_, rfl, wpAny_letOwnedTupleGo_enum (s := { s with heap := h', toks := tk + 1 }) ho fun h'' he' sb => ?_⟩
    have hT2 : h''.get? s.heap.objs.size = some { cls := .type "tuple", data := .seq #[.int i tk, y] } := (sb.2 _ (Nat.ne_of_gt hel)).trans hT
    have new : ObjOk X.prog X.w (upd H s.heap.objs.size (.tup [.int (i : Nat), x])) h'' s.heap.objs.size (.tup [.int (i : Nat), x]) :=
      ⟨by show 2 ≤ sizeLine; decide, [.int i tk, y], .cons ⟨_, rfl⟩ (.cons ru .nil), ⟨_, hT2, rfl, _, rfl⟩⟩
    have I1 : Inv X pins σ (upd H s.heap.objs.size (.tup [.int (i : Nat), x])) { s with heap := h'', toks := tk + 1 } :=
      I.turnedNew (ch := [e, it]) (fun b ob hb q => (sb.2 b (fun z => hb (by simp [z]))).trans (hk b ob (fun z => hb (by simp [z])) (fun z => hb (by simp [z])) q)) hf (Nat.le_refl _) new
    refine ⟨.ref s.heap.objs.size, _, I1, rfl, ⟨_, x, rfl, I.hok.fresh (Nat.le_refl _), rfl, fun ys hy => by rw [I.tuple_inj hy hq]; exact hx⟩, ⟨⟨y, ?_⟩, hst'.1.at fun o q => (sb.2 it (Ne.symm hne)).trans q, hne⟩, fun b hb => ?_⟩
    · rw [show ((i + 1 : Nat) : Int) = (i : Int) + 1 by omega]
      exact he'
    · have hb' : b < s.heap.objs.size := by
        rcases (show b = e ∨ b = it by simpa using hb) with rfl | rfl
        · exact hel
        · exact hil
      rw [upd_ne (Nat.ne_of_lt hb')]
      exact (hf b hb).1
  done := by
    intro X hP hw hK hc i pins s σ H E I hf st hg
    subst hP hw hK
    obtain ⟨⟨old, he⟩, hit, hne⟩ := st
    obtain ⟨xs, hq, hx⟩ := hg
    obtain ⟨its, rv, p, hz⟩ := I.tuple hq
    obtain ⟨f0, f1, f2, f3, f4, f5⟩ := hf it (by simp)
    have hle : its.toArray.size ≤ i := by
      have := rv.length
      simp
      omega
    have D : Draws X.prog X.w X.A.in1 it [it, a] 0 (fun _ _ => True) (fun _ h => h.IsTupleIter it a i ∧ h.IsTuple a its.toArray) :=
      ⟨fun _ _ st => let ⟨o, ho, _⟩ := st.1; ⟨o, ho⟩, fun _ _ _ st hk => ⟨st.1.at fun o e => hk it (by simp) o e, st.2.at fun o e => hk a (by simp) o e⟩,
        fun j _ _ _ hj _ _ => absurd hj (Nat.not_lt_zero _), fun s Q E st hE => wpAny_nextOf_tuple_end (I.ok.hd hc) st.1 st.2 (by simpa using hle) hE⟩
    exact wpAny_pyNext_enum_endD D he ⟨hit, p⟩ fun h' eb => ⟨rfl, I.turned (t' := s.toks) (fun b o hb q => eb b o hb q) f0 f1 f3 f4 f5⟩
  self := fun A i s Q E st h => let ⟨⟨_, he⟩, _⟩ := st; wpAny_pyIter_enum he h
/-- enumerate of a list or a tuple -/
def iEnumA (K : PySem.W.Frag) (ta : TA) : TI := fun σ H R => ta σ H fun vs H1 => ∃ a xs, vs = [.ref a] ∧ ((SqL K H1 a xs ∧ R (Ite K a) H1) ∨ (SqT K H1 a xs ∧ R (IteT K a) H1))
theorem pi_enumA {X : Cx} {e : Expr} {ta : TA} {p pos tpos : Pos} {elts : List Expr} {kk : Nat} (hg : Gl X "enumerate") (hm : X.mg "enumerate" = none) (ha : PA X [e] ta) (hs : starEach [e] X.env = [(false, eval e X.env)] := by rfl) :
    PI X (.Tuple elts kk tpos) (.Call (.Name "enumerate" p) [e] [] pos) (iEnumA X.K ta) := by
  refine ⟨fun pins s σ H R I h => Call_ (ld_blt I hg hm boot_enumerate (PyProof.Rows.callWith_type1 (thn (ha.run pos pins s σ H _ I h) fun us s1 ⟨vs, H1, I1, r1, a, xs, ex, q1⟩ => ?_) hs rfl))⟩
  subst ex
  obtain ⟨u, rfl, ru⟩ : ∃ u, us = [u] ∧ RelV (.ref a) u := by
    cases r1 with
    | cons r rr =>
      cases rr
      exact ⟨_, rfl, r⟩
  obtain rfl : u = Value.ref a := ru
  have away : ∀ b ∈ [s1.heap.objs.size + 1, s1.heap.objs.size], ∀ {h' : Heap}, Inv X pins σ H1 { s1 with heap := h' } → FpOk X pins H1 b := fun b hb h' I2 => by
    have hle : s1.heap.objs.size ≤ b := by
      rcases (show b = s1.heap.objs.size + 1 ∨ b = s1.heap.objs.size by simpa using hb) with z | z
      · rw [z]; exact Nat.le_add_right _ _
      · rw [z]; exact Nat.le_refl _
    exact I1.fpOk hle (I1.hok.fresh hle)
  rcases q1 with ⟨hq, q⟩ | ⟨hq, q⟩
  · obtain ⟨its, rv, p', hz⟩ := I1.list hq
    refine call_enumerate_list p'.isList fun h' he hit hsz hk => wpAny_pyIter_enum he ?_
    have I2 : Inv X pins σ H1 { s1 with heap := h' } := I1.kept (t' := s1.toks) hk
    exact ⟨s1.heap.objs.size + 1, [s1.heap.objs.size + 1, s1.heap.objs.size], _, _, H1, rfl, I2, turn_enum a (s1.heap.objs.size + 1) s1.heap.objs.size, ⟨⟨.none, he⟩, hit, Nat.succ_ne_self _⟩, fun b hb => away b hb I2, q⟩
  · obtain ⟨its, rv, p', hz⟩ := I1.tuple hq
    have hal : a < s1.heap.objs.size := by
      obtain ⟨o, ho, _⟩ := id p'
      exact Heap.lt_size ho
    refine call_enum1 (begins_tuple a its.toArray) p' fun h' he hit hk => wpAny_pyIter_enum he ?_
    have I2 : Inv X pins σ H1 { s1 with heap := h' } := I1.kept (t' := s1.toks) hk
    exact ⟨s1.heap.objs.size + 1, [s1.heap.objs.size + 1, s1.heap.objs.size], _, _, H1, rfl, I2, turn_enumT a (s1.heap.objs.size + 1) s1.heap.objs.size (Nat.ne_of_lt hal) (Nat.ne_of_lt (Nat.lt_succ_of_lt hal)), ⟨⟨.none, he⟩, ⟨_, hit, rfl, rfl⟩, Nat.succ_ne_self _⟩, fun b hb => away b hb I2, q⟩
/-! over trees -/
section
variable {K : PySem.W.Frag} {B Wd H S : Hp} {a : Addr} {xs vs : List V} {ts : List T}
theorem walk_enumT : Walk (IteT K a) xs.length (fun H => SqT K H a xs) (YPair (fun i => some (.int (i : Nat))) (fun i => xs[i]?)) := by
  refine ⟨fun i _ hi q => ⟨xs, xs[i], q, by simp [hi]⟩, fun _ q => ⟨xs, q, Nat.le_refl _⟩, fun i H v H' _ q y => ?_⟩
  obtain ⟨T, x, h1, h2, h3, h4⟩ := y
  exact ⟨T, .int (i : Nat), x, h1, h2, h3, rfl, h4 xs q⟩
theorem iter_enumT (h : SqT K S a vs) (r : Reps K S ts vs) : IterOk K Wd S (IteT K a) (enumL 0 ts) := by
  refine ⟨_, _, by rw [enumL_len, r.len]; exact walk_enumT, fun H e => SqT.mono e h, fun i t H v H2 B' os us et y b s => ?_⟩
  obtain ⟨p, x, w, rfl, hp, rfl, e1, e2⟩ := y
  rw [enumL_get] at et
  cases q : ts[i]? with
  | none => rw [q] at et; cases et
  | some u =>
    rw [q] at et
    cases et
    cases e1
    obtain ⟨w', h1, h2⟩ := r.get q
    rw [show vs[i]? = some w from e2] at h1
    cases h1
    rw [Nat.zero_add]
    exact Sim.pair s b (show Rep K S (.int (i : Nat)) (.int (i : Nat)) from rfl) h2 hp
end
def xEnumA (y : XA) : XI := fun ρ K Z => y ρ (fun os ρ1 => match O.ts os with
  | [.lst ts] => K (enumL 0 ts) ρ1
  | [.kls ts] => K (enumL 0 ts) ρ1
  | [.tup ts] => K (enumL 0 ts) ρ1
  | [.ktp ts] => K (enumL 0 ts) ρ1
  | _ => False) Z
theorem pit_enumA {X : Cx} {W : L2.WX} {e : Expr} {y : XA} {p pos tpos : Pos} {elts : List Expr} {kk : Nat} (hg : Gl X "enumerate") (hm : X.mg "enumerate" = none) (ha : PAt X W [e] y) (hs : starEach [e] X.env = [(false, eval e X.env)] := by rfl) : PIt X W (.Tuple elts kk tpos) (.Call (.Name "enumerate" p) [e] [] pos) (xEnumA y) :=
  PI.imp (pi_enumA hg hm ha hs) fun σ H Q ⟨B, Wd, fr, frv, ρ, K0, Z0, hl, s, hx, hK, hZ⟩ => ⟨B, Wd, fr, frv, ρ, _, Z0, hl, s, hx, fun os ρ1 vs H1 hle k1 s1 => by
    obtain ⟨S, e1, e2, rp, s2⟩ := stack_reps hle s1
    have one : ∀ {t : T}, O.ts os = [t] → ∃ v, vs = [v] ∧ Rep X.K S t v := fun {t} q => by
      rw [q] at rp
      obtain ⟨v, r, rfl, h1, h2⟩ := rp
      have : r = [] := h2
      subst this
      exact ⟨v, rfl, h1⟩
    split at k1
    · rename_i ts q
      obtain ⟨v, rfl, a, va, rfl, h1, h2⟩ := one q
      exact ⟨a, va, rfl, .inl ⟨SqL.of (e2 _ _ h1), hK _ _ _ _ _ k1 e1 s2 (iter_enum (SqL.of h1) h2)⟩⟩
    · rename_i ts q
      obtain ⟨v, rfl, a, va, rfl, h1, h2⟩ := one q
      exact ⟨a, va, rfl, .inl ⟨Same.seq e2 h1, hK _ _ _ _ _ k1 e1 s2 (iter_enum h1 h2)⟩⟩
    · rename_i ts q
      obtain ⟨v, rfl, a, va, rfl, h1, h2⟩ := one q
      exact ⟨a, va, rfl, .inr ⟨SqT.of (e2 _ _ h1), hK _ _ _ _ _ k1 e1 s2 (iter_enumT (SqT.of h1) h2)⟩⟩
    · rename_i ts q
      obtain ⟨v, rfl, a, va, rfl, h1, h2⟩ := one q
      exact ⟨a, va, rfl, .inr ⟨SqT.mono e2 h1, hK _ _ _ _ _ k1 e1 s2 (iter_enumT h1 h2)⟩⟩
    · exact k1.elim, hZ⟩
end TL

/-! t[::-1] of a tuple -/
namespace TL
open PySem PySem.Spec PyProof.Rows L2 HT
section
variable {prog : Program} {w : World} {A : Around} {E : Value → Shared → Prop} {s : Shared}
theorem places_down (n : Nat) : Builtin.Slice.slicePlaces ((n : Int) - 1) (-1) (-1) = n := by
  unfold Builtin.Slice.slicePlaces
  rw [if_neg (by decide)]
  by_cases h : (n : Int) - 1 > -1
  · rw [if_pos h, show -(-1 : Int) = 1 by decide, Int.ediv_one]
    omega
  · rw [if_neg h]
    omega
theorem applied_down {sl : Addr} {vl vu vs : Value} {n : Nat} {Q : Int × Int × Nat → Shared → Prop} (hs : s.heap.IsSliceOf sl vl vu vs) (pl : IsPart vl none) (pu : IsPart vu none) (ps : IsPart vs (some (-1)))
    (h : Q ((n : Int) - 1, -1, n) s) : wpAny (model prog w) A (Builtin.Slice.sliceApplied (.ref sl) (pure (n : Int))) Q E s := by
  obtain ⟨os, hos, hcs, hds⟩ := id hs
  unfold Builtin.Slice.sliceApplied Builtin.Slice.sliceFields
  refine wpAny_bind (wpAny_bind (wpAny_field hos hds (x := vl) rfl (wpAny_bind (wpAny_field hos hds (x := vu) rfl (wpAny_bind (wpAny_field hos hds (x := vs) rfl (wpAny_pure ?_)))))))
  refine wpAny_bind (slicePart_ ps ?_)
  show wpAny _ _ (if ((-1 : Int) == 0) = true then _ else _) _ _ s
  rw [if_neg (by decide)]
  refine wpAny_bind (slicePart_ pl (wpAny_bind (slicePart_ pu (wpAny_bind (wpAny_pure ?_)))))
  show wpAny _ _ (pure ((n : Int) - 1, (-1 : Int), Builtin.Slice.slicePlaces ((n : Int) - 1) (-1) (-1))) _ _ s
  rw [places_down]
  exact wpAny_pure h
theorem pick_down (xs : Array Value) : ((List.range xs.size).filterMap fun (m : Nat) => xs[((xs.size : Int) - 1 + (m : Int) * -1).toNat]?).toArray = xs.toList.reverse.toArray := by
  rw [← PySem.W.krv_all xs, ← List.filterMap_reverse, ← PySem.W.krv_range, List.filterMap_map]
  have cg : ∀ (l : List Nat) (f g : Nat → Option Value), (∀ m ∈ l, f m = g m) → l.filterMap f = l.filterMap g := fun l f g => by
    induction l with
    | nil => intro _; rfl
    | cons a r ih =>
      intro h
      rw [List.filterMap_cons, List.filterMap_cons, h a List.mem_cons_self, ih fun m hm => h m (List.mem_cons_of_mem _ hm)]
  refine congrArg List.toArray (cg _ _ _ fun m hm => ?_)
  show _ = xs[xs.size - 1 - m]?
  rw [show ((xs.size : Int) - 1 + (m : Int) * -1).toNat = xs.size - 1 - m by
    have := List.mem_range.mp hm
    omega]
theorem getItem_tuple_down {t sl : Addr} {items : Array Value} {vl vu vs : Value} {Q : Value → Shared → Prop} (ht : IsTup s.heap t items) (hs : s.heap.IsSliceOf sl vl vu vs) (pl : IsPart vl none) (pu : IsPart vu none) (ps : IsPart vs (some (-1)))
    (h : Q (.ref s.heap.objs.size) { s with heap := s.heap.push { cls := .type "tuple", data := .seq items.toList.reverse.toArray } })
    (hsz : items.size ≤ sizeLine) : wpAny (model prog w) A (getItem (.ref t) (.ref sl)) Q E s := by
  obtain ⟨os, hos, hcs, hds⟩ := id hs
  have hT : s.TypeIs (.ref sl) "slice" := ⟨os, hos, hcs⟩
  have hfit : sizeOk (.seq items.toList.reverse.toArray) := by
    show items.toList.reverse.toArray.size ≤ sizeLine
    simpa using hsz
  unfold getItem
  try with_reducible refine wpAny_holding ?_
  first | refine wpAny_bind (wpAny_pure ?_) | skip
  refine wpAny_bind (wpAny_sequenceKey ht.typeIs (by decide) (wpAny_bind (wpAny_callSpecial?_slot (name := Str.ofString "__getitem__") ht.typeIs PyProof.Rows.slot_tuple_getitem
    (wpAny_call_entry PyProof.Rows.slot_tuple_getitem ht.typeIs entry_tuple_getitem ?_ (args_tuple_getitem _ _)))))
  show wpAny _ _ (Builtin.Tuple.tupleItemsOf (.ref t) >>= _) _ _ s
  refine wpAny_bind (tupleItemsOf_ ht (wpAny_bind (wpAny_typeOf hT ?_)))
  rw [if_pos (by decide)]
  refine wpAny_bind (applied_down hs pl pu ps ?_)
  have hno : ¬ ((((items.size : Int) - 1) == 0 && (-1 : Int) == 1 && items.size == items.size) = true) := by simp
  show wpAny _ _ (if (((items.size : Int) - 1) == 0 && (-1 : Int) == 1 && items.size == items.size) = true then _ else _) _ _ s
  rw [if_neg hno, pick_down]
  first
    | exact wpAny_bind (m := Builtin.Tuple.tupleExact _) (wpAny_newObj_type (wpAny_pure ⟨_, rfl, wpAny_pure h⟩) hfit)
    | exact wpAny_bind (m := Builtin.Tuple.tupleExact _) (wpAny_newObj_type (wpAny_bind (wpAny_pure (wpAny_pure ⟨_, rfl, wpAny_pure h⟩))) hfit)
    | exact wpAny_bind (wpAny_bind (m := Builtin.Tuple.tupleExact _) (wpAny_newObj_type (wpAny_pure (wpAny_pure ⟨_, rfl, wpAny_pure h⟩)) hfit))
    | exact wpAny_bind (wpAny_bind (m := Builtin.Tuple.tupleExact _) (wpAny_newObj_type (wpAny_pure ⟨_, rfl, wpAny_pure h⟩) hfit))
end
section
variable {X : Cx} {W : L2.WX} {e : Expr} {te : TE} {x : XE} {k : Nat} {p1 p2 p3 pos : Pos}
/-- a list or a tuple turned around -/
def tRevA (K : PySem.W.Frag) (te : TE) : TE := fun σ H Q => te σ H fun x H1 => ∃ a xs, x = .ref a ∧ ((SqL K H1 a xs ∧ ∀ p, H1 p = none → Q (.ref p) (upd H1 p (.lst xs.reverse))) ∨ (SqT K H1 a xs ∧ ∀ p, H1 p = none → Q (.ref p) (upd H1 p (.tup xs.reverse))))
theorem pe_revA (he : PE X e te) : PE X (.Subscript e (.Slice none none (some (.UnaryOp .USub (.Constant (.int 1) k p1) p2)) p3) pos) (tRevA X.K te) := by
  refine ⟨fun pins s σ H Q I h => Subscript_ (thn (he.run pins s σ H _ I h) fun v s1 ⟨x, H1, I1, r1, a, xs, ex, q1⟩ => ?_)⟩
  subst ex
  obtain rfl : v = Value.ref a := r1
  have hst : PO X (some (.UnaryOp .USub (.Constant (.int 1) k p1) p2)) (tPart (tUn (rU fun i => .int (-i)) (tC (.int 1)))) := L2.po_some (pe_un un_neg L2.pe_int)
  refine wpAny_Slice (thn (L2.po_none.run pins s1 σ H1 (fun o H2 => o = none ∧ H2 = H1) I1 ⟨rfl, rfl⟩) fun vl s2 ⟨l, H2, I2, pl, el, e2⟩ => thn (L2.po_none.run pins s2 σ H2 (fun o H3 => o = none ∧ H3 = H2) I2 ⟨rfl, rfl⟩) fun vu s3 ⟨u, H3, I3, pu, eu, e3⟩ =>
    thn (hst.run pins s3 σ H3 (fun o H4 => o = some (-1) ∧ H4 = H3) I3 ⟨1, rfl, -1, rfl, rfl, rfl⟩) fun vs s4 ⟨o, H4, I4, ps, eo, e4⟩ => ?_)
  subst el e2 eu e3 eo e4
  have I5 : Inv X pins σ H4 { s4 with heap := s4.heap.push { cls := .type "slice", data := .fields #[vl, vu, vs] } } := I4.kept (t' := s4.toks) fun b ob q => Heap.get?_push_of_some _ q
  show wpAny (model X.prog X.w) X.A (subscriptTail e (.Slice none none (some (.UnaryOp .USub (.Constant (.int 1) k p1) p2)) p3) (.ref a) (.ref s4.heap.objs.size)) (EP X pins σ Q) X.xe { s4 with heap := s4.heap.push { cls := .type "slice", data := .fields #[vl, vu, vs] } }
  rcases q1 with ⟨hx, q⟩ | ⟨hx, q⟩
  · obtain ⟨its, r, ht, hz⟩ := I5.list hx
    have hlen := r.length
    refine tail_any (ops := [.ref a, .ref s4.heap.objs.size]) ht.isList.typeIs (PySem.slot_list_getitem.lookup) (wpAny_getItem_list_slice ht.isList (Heap.IsSliceOf.new _ vl vu vs) pl pu ps (by decide) ?_ (by rw [List.size_toArray]; omega)) (by with_unfolding_all rfl)
    rw [PySem.W.krv_pick]
    exact ⟨.ref _, _, I5.laid (t' := s4.toks) (o := .lst xs.reverse) (fun b ob q => Heap.get?_push_of_some _ q) (Nat.le_refl _) ⟨by rw [List.length_reverse]; exact hz, _, 0, r.reverse, Heap.get?_push_size _ rfl⟩, rfl, q _ (I5.hok.fresh (Nat.le_refl _))⟩
  · obtain ⟨its, r, ht, hz⟩ := I5.tuple hx
    have hlen := r.length
    refine tail_any (ops := [.ref a, .ref s4.heap.objs.size]) ht.typeIs (PyProof.Rows.slot_tuple_getitem.lookup) (getItem_tuple_down ht (Heap.IsSliceOf.new _ vl vu vs) pl pu ps ?_ (by rw [List.size_toArray]; omega)) (by with_unfolding_all rfl)
    exact ⟨.ref _, _, I5.laid (t' := s4.toks) (o := .tup xs.reverse) (fun b ob q => Heap.get?_push_of_some _ q) (Nat.le_refl _) ⟨by rw [List.length_reverse]; exact hz, _, r.reverse, IsTup.new _ _⟩, rfl, q _ (I5.hok.fresh (Nat.le_refl _))⟩
def revAT : T → (O → Prop) → Prop
  | .lst ts, Q => Q (.lst (ts.reverse.map .sh))
  | .kls ts, Q => Q (.lst (ts.reverse.map .sh))
  | .tup ts, Q => Q (.sh (.tup ts.reverse))
  | .ktp ts, Q => Q (.sh (.tup ts.reverse))
  | _, _ => False
def xRevA (x : XE) : XE := fun ρ K Z => x ρ (fun o ρ1 => revAT o.t fun r => K r ρ1) Z
theorem pet_revA (he : PEt X W e x) : PEt X W (.Subscript e (.Slice none none (some (.UnaryOp .USub (.Constant (.int 1) k p1) p2)) p3) pos) (xRevA x) :=
  PE.imp (pe_revA he) fun σ H Q ⟨B, Wd, fr, frv, ρ, K0, Z0, hlen, s, hx, hK, hZ⟩ =>
    ⟨B, Wd, fr, frv, ρ, _, Z0, hlen, s, hx, fun o ρ1 v H1 k1 s1 => by
      obtain ⟨B', Wd', _, h2, back⟩ := Sim.front (as := [.sh o.t]) (va := [v]) rfl s1.frz1
      obtain ⟨S, e1, e2, rx, bk⟩ := Smo.get1 h2
      have tsm : ∀ ts : List T, O.ts (ts.map .sh) = ts := fun ts => by
        rw [O.ts_map, List.map_map]
        exact (List.map_congr_left fun a _ => rfl).trans (List.map_id ts)
      cases q : o.t <;> rw [q] at k1 rx <;> first
        | exact (show False from k1).elim
        | skip
      · obtain ⟨a, va, rfl, ha, ra⟩ := rx
        refine ⟨a, va, rfl, .inr ⟨SqT.of (e2 _ _ ha), fun p hp => hK _ _ _ _ k1 ?_⟩⟩
        have h3 := (bk _ _ ra.rev).newT hp
        rw [tsm] at h3
        exact back _ _ _ h3
      · obtain ⟨a, va, rfl, ha, ra⟩ := rx
        exact ⟨a, va, rfl, .inl ⟨SqL.of (e2 _ _ ha), fun p hp => hK _ _ _ _ k1 (by simpa using back _ _ _ ((bk _ _ ra.rev).newL hp))⟩⟩
      · obtain ⟨a, va, rfl, ha, ra⟩ := rx
        refine ⟨a, va, rfl, .inr ⟨SqT.mono e2 ha, fun p hp => hK _ _ _ _ k1 ?_⟩⟩
        have h3 := (bk _ _ ra.rev).newT hp
        rw [tsm] at h3
        exact back _ _ _ h3
      · obtain ⟨a, va, rfl, ha, ra⟩ := rx
        exact ⟨a, va, rfl, .inl ⟨Same.seq e2 ha, fun p hp => hK _ _ _ _ k1 (by simpa using back _ _ _ ((bk _ _ ra.rev).newL hp))⟩⟩, hZ⟩
end
end TL

namespace TL
open PySem PySem.Spec PyProof.Rows L2
theorem takes0 {X : Cx} : Takes X W0 := fun u s' ⟨a, B, sI, pins, σ, H, cls, d, e, I, nb, up, sky, na, os, ag, w⟩ => w.elim
theorem bt_len : bootBuiltins "len" = some (.builtin "len") := by decide +kernel
theorem bt_abs : bootBuiltins "abs" = some (.builtin "abs") := by decide +kernel
theorem bt_max : bootBuiltins "max" = some (.builtin "max") := by decide +kernel
theorem bt_min : bootBuiltins "min" = some (.builtin "min") := by decide +kernel
theorem bt_any : bootBuiltins "any" = some (.builtin "any") := by decide +kernel
theorem bt_all : bootBuiltins "all" = some (.builtin "all") := by decide +kernel
theorem bt_int : bootBuiltins "int" = some (.type "int") := by decide +kernel
theorem bt_list : bootBuiltins "list" = some (.type "list") := by decide +kernel
theorem bt_tuple : bootBuiltins "tuple" = some (.type "tuple") := by decide +kernel
theorem bt_str : bootBuiltins "str" = some (.type "str") := by decide +kernel
theorem bt_bool : bootBuiltins "bool" = some (.type "bool") := by decide +kernel
theorem bt_dict : bootBuiltins "dict" = some (.type "dict") := by decide +kernel

/-! ### a < b < c -/
def xChain (g g' : T → T → (Bool → Prop) → Prop) (xa xb xc : XE) : XE := fun ρ K Z => xa ρ (fun oa ρ1 => xb ρ1 (fun ob ρ2 => g oa.t ob.t fun k => if k = true then xc ρ2 (fun oc ρ3 => g' ob.t oc.t fun k' => K (.sh (.bl k')) ρ3) Z else K (.sh (.bl false)) ρ2) Z) Z
def xChainT (g g' : T → T → (Bool → Prop) → Prop) (xa xb xc : XE) : XT := fun ρ K Z => xa ρ (fun oa ρ1 => xb ρ1 (fun ob ρ2 => g oa.t ob.t fun k => if k = true then xc ρ2 (fun oc ρ3 => g' ob.t oc.t fun k' => K k' ρ3) Z else K false ρ2) Z) Z
section
variable {X : Cx} {W : L2.WX} {a b c e : Expr} {xa xb xc x : XE} {pos p : Pos} {g g' : T → T → (Bool → Prop) → Prop} {r r' : R2} {op op' : CmpOp}
/-- two that stand shared -/
theorem Sim.two {K : PySem.W.Frag} {B Wd H : Hp} {os : R} {us : L2.St} {oa ob : O} {va vb : V} (s : Sim K B Wd (some ob :: some oa :: os) (some vb :: some va :: us) H) :
    ∃ B' Wd', Smo K B' Wd' [.sh ob.t, .sh oa.t] [vb, va] H ∧ ∀ os' vs' H', Smo K B' Wd' os' vs' H' → Sim K B Wd (os'.map some ++ os) (vs'.map some ++ us) H' := by
  obtain ⟨B', Wd', _, h2, back⟩ := Sim.front (as := [ob, oa]) (va := [vb, va]) rfl s
  exact ⟨B', Wd', h2.frz, back⟩
theorem Sim.shB {K : PySem.W.Frag} {B Wd H : Hp} {os : R} {us : L2.St} {o : O} {v : V} (s : Sim K B Wd (some o :: os) (some v :: us) H) : Sim K B Wd (some (.sh o.t) :: os) (some v :: us) H := s.frz1
theorem chain_core (ht : Op2 X r (gB g)) (ht' : Op2 X r' (gB g')) {σ : L2.St} {H : Hp} {Q : VK} (h : lE X.K W (xChain g g' xa xb xc) σ H Q) : tChain r r' (lE X.K W xa) (lE X.K W xb) (lE X.K W xc) σ H Q := by
  obtain ⟨B, Wd, fr, frv, ρ, K0, Z0, hl, s, hx, hK, hZ⟩ := h
  refine ⟨B, Wd, fr, frv, ρ, _, Z0, hl, s, hx, fun oa ρ1 va H1 k1 s1 => ⟨B, Wd, some oa :: fr, some va :: frv, ρ1, _, Z0, by simp [hl], s1, k1, fun ob ρ2 vb H2 k2 s2 => ?_, hZ.push⟩, hZ⟩
  obtain ⟨vb', e1, s3⟩ := s2.read (n := 0) (o := ob) rfl
  have evb : vb' = vb := by simpa using e1.symm
  subst evb
  have s4 : Sim X.K B Wd ([some (.sh ob.t), some oa] ++ some (.sh ob.t) :: (fr ++ ρ2)) ([some vb', some va] ++ some vb' :: (frv ++ σ)) H2 := Sim.unrot (l1 := [some (.sh ob.t), some oa]) (v1 := [some vb', some va]) rfl (by
    exact s3)
  obtain ⟨B', Wd', h2, back⟩ := Sim.two (oa := oa) (ob := .sh ob.t) s4
  refine ht B' Wd' H2 oa.t ob.t va vb' (fun o => match o with
    | .sh (.bl k) => if k = true then xc ρ2 (fun oc ρ3 => g' ob.t oc.t fun k' => K0 (.sh (.bl k')) ρ3) Z0 else K0 (.sh (.bl false)) ρ2
    | _ => False) _ h2 k2 fun o v H3 ko so => ?_
  have s5 := back [o] [v] H3 so
  split at ko
  · rename_i k
    obtain ⟨S, _, _, rp⟩ := s5.rep
    refine ⟨k, rp, ?_⟩
    have s6 : Sim X.K B Wd (some (.sh ob.t) :: (fr ++ ρ2)) (some vb' :: (frv ++ σ)) H3 := s5.drop
    by_cases hk : k = true
    · rw [if_pos hk] at ko ⊢
      refine ⟨B, Wd, some (.sh ob.t) :: fr, some vb' :: frv, ρ2, _, Z0, by simp [hl], s6, ko, fun oc ρ3 vc H4 k4 s7 => ?_, hZ.push⟩
      obtain ⟨B2, Wd2, h5, back2⟩ := Sim.two (oa := .sh ob.t) (ob := oc) s7
      exact ht' B2 Wd2 H4 ob.t oc.t vb' vc (fun o => K0 o ρ3) _ h5 k4 fun o v H5 ko so => hK _ _ _ _ ko (back2 [o] [v] H5 so)
    · rw [if_neg hk] at ko ⊢
      exact hK _ _ _ _ ko (s6.drop.push fun _ => rfl)
  · exact ko.elim
theorem pe_chain (ho : OpR X (compareOp op) r) (ht : Op2 X r (gB g)) (ho' : OpR X (compareOp op') r') (ht' : Op2 X r' (gB g')) (ha : PEt X W a xa) (hb : PEt X W b xb) (hc : PEt X W c xc)
    (hm : lastMarks [op, op'] [b, c] = false := by with_unfolding_all rfl) : PEt X W (.Compare a [op, op'] [b, c] pos) (xChain g g' xa xb xc) :=
  PE.imp (L2.pe_chain ho ho' ha hb hc hm) fun σ H Q h => chain_core ht ht' h
theorem pt_chain (ho : OpR X (compareOp op) r) (ht : Op2 X r (gB g)) (ho' : OpR X (compareOp op') r') (ht' : Op2 X r' (gB g')) (ha : PEt X W a xa) (hb : PEt X W b xb) (hc : PEt X W c xc)
    (hm : lastMarks [op, op'] [b, c] = false := by with_unfolding_all rfl) : PTt X W (.Compare a [op, op'] [b, c] pos) (xChainT g g' xa xb xc) :=
  PT.imp (L2.pt_chain ho ho' ha hb hc hm) fun σ H Q ⟨B, Wd, fr, frv, ρ, K0, Z0, hl, s, hx, hK, hZ⟩ =>
    chain_core (W := W) ht ht' (Q := fun z H3 => ∃ k, z = .bl k ∧ Q k H3) ⟨B, Wd, fr, frv, ρ, (fun o ρ' => match o with
      | .sh (.bl k) => K0 k ρ'
      | _ => False), Z0, hl, s, hx, fun o ρ' v H' q s' => by
        dsimp only at q
        split at q
        · rename_i k
          obtain ⟨S, _, _, rp⟩ := s'.rep
          exact ⟨k, rp, hK _ _ _ q s'.drop⟩
        · exact q.elim, hZ⟩
/-- range(i, j, -1) -/
def xRng3 (y : XA) : XI := fun ρ K Z => y ρ (fun os ρ1 => match O.ts os with
  | [.int i, .int j, .int (-1)] => (-(2 ^ 62) ≤ i ∧ i < 2 ^ 62 ∧ -(2 ^ 62) ≤ j ∧ j < 2 ^ 62) ∧ K (rangeC i (-1) (i - j).toNat) ρ1
  | _ => False) Z
theorem pi_range3 {y : XA} {tg a b c : Expr} (hg : Gl X "range") (hm : X.mg "range" = none) (ha : PAt X W [a, b, c] y) (hs : starEach [a, b, c] X.env = (false, eval a X.env) :: starEach [b, c] X.env := by rfl) (hpl : (backTo pos (starEach [b, c] X.env)).any (·.1) = false := by rfl) : PIt X W tg (.Call (.Name "range" p) [a, b, c] [] pos) (xRng3 y) :=
  PI.imp (L2.pi_range3 hg hm ha hs hpl) fun σ H Q ⟨B, Wd, fr, frv, ρ, K0, Z0, hl, s, hx, hK, hZ⟩ => ⟨B, Wd, fr, frv, ρ, _, Z0, hl, s, hx, fun os ρ1 vs H1 hle k1 s1 => by
    obtain ⟨S, e1, e2, rp, s2⟩ := stack_reps hle s1
    split at k1
    · rename_i i j q
      rw [q] at rp
      obtain ⟨v, r, rfl, rv, w, r2, rfl, rw2, z, r3, rfl, rz, rr⟩ := rp
      have rr' : r3 = [] := rr
      subst rr'
      have f1 : v = .int i := rv
      have f2 : w = .int j := rw2
      have f3 : z = .int (-1) := rz
      subst f1 f2 f3
      exact ⟨i, j, -1, _, rfl, RgC.neg k1.1.1 k1.1.2.1 k1.1.2.2.1 k1.1.2.2.2, hK _ _ _ _ _ k1.2 e1 s2 iter_rangeC⟩
    · exact k1.elim, hZ⟩
theorem pe_globE {y : Str} {v : V} {t : T} (hg : Gl X y) (hm : ∃ u, X.mg y = some u ∧ RelV v u) (rt : ∀ S, Rep X.K S t v) (hd : (y == ("__debug__" : Str)) = false := by decide) : PEt X W (.Name y pos) (xC t) :=
  let ⟨_, h1, h2⟩ := hm; pe_glob hg h1 h2 rt hd
end
end TL

/-! own exceptions over trees: made and raised, caught, asked, their fields -/
namespace TL
open PySem PySem.Spec PyProof.Rows L2
section
variable {X : Cx} {CX : CXT} {x : Str} {e : Expr} {es : List Expr} {ta : TA} {p pos : Pos} {C fI : Addr} {k : Nat} {fd : FuncData} {ps : List Str} {sp : Sp}
/-- C(e, ..) where nothing is handled: the new exception's context is None -/
theorem pmkN (T : OexC X.K C) (iC : PySem.W.findIn X.K (.ref C) "__init__" = some (some (.ref fI))) (tI : PySem.W.typeIn X.K (.ref fI) = some (.type "function"))
    (F1 : FnOk X.prog X.w X.K X.mg X.base CX k fI fd ps sp) (hr : Room (k + 1) X.A) (hb : Binds X.K fd ps []) (hx : Passes CX X (fun _ _ _ => False)) (hg : Gl X x) (hm : X.mg x = some (.ref C)) (ha : PA X (e :: es) ta)
    (hdb : (x == ("__debug__" : Str)) = false := by decide) (he : starEach (e :: es) X.env = (false, eval e X.env) :: starEach es X.env := by rfl) (hpl : (backTo pos (starEach es X.env)).any (·.1) = false := by rfl) :
    L2N.PMk X (.Call (.Name x p) (e :: es) [] pos) (tMkO C sp [] ta) := by
  intro pins s σ H Q I h
  obtain ⟨_, _, _, _, bm, _, _, _, _, _, _, _, _, _, _, hC, hbm⟩ := T.cls
  refine wpAny_Call_Name_kw (ld_glob I hg hm (PySem.W.callWith_K (h₀ := X.base) I.ok.mod.kin T.kC (thn (ha.run pos pins s σ H _ I h) fun us s1 ⟨vs, H1, I1, r1, hz, q1⟩ => ⟨I1.kIn, ?_⟩) he hpl) hdb)
  show wpAny _ _ (call (.ref C) us) _ _ _
  obtain ⟨hp, g, dr, tk, os⟩ := s1
  let n := hp.objs.size
  let h2 := (hp.push (PySem.W.kdv_tup us)).push (PySem.HandSPX.excO C n)
  have le : n ≤ n + 1 := Nat.le_succ _
  have free : H1 (n + 1) = none := I1.hok.fresh le
  have hq := q1 (n + 1) free
  rw [List.append_nil] at hq
  have grow : ∀ b o, hp.get? b = some o → h2.get? b = some o := fun b o z => Heap.get?_push_of_some _ (Heap.get?_push_of_some _ z)
  have atE : h2.get? (n + 1) = some (PySem.HandSPX.excO C n) := by
    show ((hp.push (PySem.W.kdv_tup us)).push (PySem.HandSPX.excO C hp.objs.size)).get? (hp.objs.size + 1) = _
    heap_get
  have I2 : Inv X pins σ (upd H1 (n + 1) (exo (n + 1) C none)) ⟨h2, g, dr, tk, os⟩ := I1.laid (t' := tk) (a := n + 1) (o := exo (n + 1) C none) (h' := h2) grow le (exo_ok atE)
  have r2 : Vals (V.ref (n + 1) :: vs) (Value.ref (n + 1) :: us) := .cons rfl r1
  have len : (Value.ref (n + 1) :: us).length = ps.length := r2.length.symm.trans (F1.len _ _ _ _ hq)
  have few : us.length ≤ sizeLine := by
    rw [← Paired.length r1, sizeLine_eq]
    omega
  have b2 := hb _ (Value.ref (n + 1) :: us) I2.kIn (by simpa using len)
  rw [List.append_nil] at b2
  refine wpAny_call (PySem.HandSPX.call_own F.excBase_ValueError (fun Y => PySem.HandSPX.refsVE_contains Y bm hbm) (I1.kIn _ _ hC) (PySem.W.looks_findIn I1.kIn iC) (fun self => PySem.W.bind_fn I1.kIn self tI) few
    (codeAny_mono (F1.run _ X.stack _ _ ⟨Value.ref (n + 1) :: us, []⟩ (Value.ref (n + 1) :: us) _ _ (fun _ _ _ => False) (hr.make C us []) (I2.env0.make C us []) b2 r2 hq) fun r s' hq' => ?_))
  rcases r with er | fl
  · exact hx pins σ _ _ er s' I2 hq'
  · cases fl <;> first
      | exact False.elim hq'
      | skip
    obtain ⟨v, H2, os2, bare2, un2, hok2, rv, ev, d, fs, ea, ed, hd1, q2⟩ := hq'
    subst ev
    obtain ⟨t0, G, J, kG, ge, hoe, na⟩ := mk_end0 (d2 := s'.drawn) (t2 := s'.toks) I1 le grow un2 hok2 os2 bare2 ea ed hd1
    exact ⟨rv, ⟨n + 1, _, _, ⟨G, s'.gens, s'.drawn, s'.toks, s'.os⟩, _, .ref C, some d, rfl, J, kG, ge, hoe, ⟨rfl, rfl, fun vs hv => by cases hv; rfl⟩, rfl, rfl, na, rfl, bare2, raises_own T.exC T.tyC, q2⟩⟩
end
/-! the class's __init__(self, v): self.f = v -/
def spIni (K : PySem.W.Frag) (C : Addr) (f : Str) : Sp := fun vs H Q _ => ∃ a y, vs = [.ref a, y] ∧ H a = some (exo a C none) ∧ OexC K C ∧ PySem.W.findIn K (.ref C) f = some none ∧
  ∀ dx, H dx = none → dx ≠ a → Q .non (upd (upd H dx (exd dx [(f, y)])) a (exo a C (some dx)))
theorem ini_ok {P : Program} {w : World} {K : PySem.W.Frag} {mg : Str → Option Value} {base : Heap} {x q f y : Str} {st : Stmt} {C fI : Addr} {fd : FuncData} {p1 p2 p3 p4 : Pos} (F : FunD K x q (defArgs st) (defBody st) (defScope st) [] [] fI fd)
    (S : FnScope ["self", y] ["self", y] (defScope st)) (hb : defBody st = [.Assign [.Attribute (.Name "self" p1) f p2] (.Name y p3) p4])
    (hv : (defScope st).names.lookup ("self" : Str) = some .local) (hv2 : (defScope st).names.lookup y = some .local) (hd : (y == ("__debug__" : Str)) = false) (hcd : (y == ("__classdict__" : Str)) = false) :
    FnOk P w K mg base (L2N.CX P w) 1 fI fd ["self", y] (spIni K C f) := by
  refine F.ok S (fun vs H Q E h => ?_) fun cdv A outer s H vs Q E hr h => ⟨tOst K f (tVar 0) (tVar 1), ?_, ?_⟩
  · obtain ⟨a, y, rfl, _⟩ := h
    rfl
  · rw [hb]
    exact PSs.nox (L2.pss_one (ps_ost (pe_var (i := 0) rfl (.inl hv) (by decide) (by decide)) (pe_var (i := 1) rfl (.inl hv2) hd hcd) (by rfl)))
  · obtain ⟨a, v, rfl, h1, h2, h3, h4⟩ := h
    exact ⟨v, rfl, .ref a, rfl, a, C, rfl, h2, h3, .inl ⟨h1, h4⟩⟩
end TL

namespace TL
open PySem PySem.Spec PyProof.Rows L2
/-- what the written part says of an own exception class with one field -/
structure Xk (P : Program) (w : World) (K : PySem.W.Frag) (mg : Str → Option Value) (base : Heap) (x f : Str) : Prop where
  mgx : mg x = some (.ref (He.ga K x))
  T : OexC K (He.ga K x)
  no : PySem.W.findIn K (.ref (He.ga K x)) f = some none
  ini : ∃ fI fd ps, PySem.W.findIn K (.ref (He.ga K x)) "__init__" = some (some (.ref fI)) ∧ PySem.W.typeIn K (.ref fI) = some (.type "function") ∧ Binds K fd ps [] ∧ FnOk P w K mg base (L2N.CX P w) 1 fI fd ps (spIni K (He.ga K x) f)
def xRaise (C : Addr) (f : Str) (y : XA) : XS := fun D ρ => y ρ (fun os ρ1 => match O.ts os with
  | [t] => D.ex C [f] [t] ρ1
  | _ => False) D.ex
section
variable {K : PySem.W.Frag} {B Wd H : Hp} {os : R} {us : L2.St} {o : O} {v : V}
theorem Sim.newX {p : Addr} {f : Str} (h : Sim K B Wd (some o :: os) (some v :: us) H) (hp : H p = none) : Sim K B Wd (some (.sh (.xd [f] [o.t])) :: os) (some (.ref p) :: us) (upd H p (.xd [(f, v)])) := by
  obtain ⟨B', Wd', _, h2, back⟩ := Sim.front (as := [o]) (va := [v]) rfl h
  have h3 : Smo K B' Wd' ([o.t].map .sh) [v] H := h2.frz
  exact back [_] [_] _ (Smo.newS (ts := [o.t]) (t := .xd [f] [o.t]) h3 hp fun S r e => ⟨p, [v], rfl, e, rfl, r⟩)
end
section
variable {X : Cx} {W : L2.WX} {e : Expr} {es : List Expr} {x : XE} {y : XA} {nm f n : Str} {p pos pos' : Pos}
theorem ps_raise1 (Y : Xk X.prog X.w X.K X.mg X.base nm f) (tk : Takes X W) (hr : Room 2 X.A) (hg : Gl X nm) (ha : PAt X W [e] y) (hc : X.calm = true := by rfl)
    (hdb : (nm == ("__debug__" : Str)) = false := by decide) (he : starEach [e] X.env = (false, eval e X.env) :: starEach [] X.env := by rfl) (hpl : (backTo pos (starEach [] X.env)).any (·.1) = false := by rfl) :
    PSt X W (.Raise (some (.Call (.Name nm p) [e] [] pos)) none pos') (xRaise (He.ga X.K nm) f y) := by
  obtain ⟨fI, fd, ps, h1, h2, h3, h4⟩ := Y.ini
  refine PS.imp (L2N.ps_raise hc tk (pmkN Y.T h1 h2 h4 hr h3 (L2N.passes_call tk fun _ _ _ _ z => z.elim) hg Y.mgx ha hdb he hpl)) fun D σ H ⟨B, Wd, fr, frv, ρ, D0, hl, s, hx, q1, q2, q3, q4, q5⟩ =>
    ⟨B, Wd, fr, frv, ρ, _, _, hl, s, hx, fun os ρ1 vs H1 hle k1 s1 => ?_, q5 σ⟩
  obtain ⟨o, v, rfl, rfl⟩ : ∃ o v, os = [o] ∧ vs = [v] := by
    match os, vs, hle with
    | [o], [v], _ => exact ⟨o, v, rfl, rfl⟩
    | [], _, _ => exact k1.elim
    | _ :: _ :: _, _, _ => exact k1.elim
  refine ⟨by show 1 ≤ 1000; decide, fun a ha => ⟨a, v, rfl, upd_same, Y.T, Y.no, fun dx hd hne => ⟨rfl, dx, [(f, v)], upd_same, ?_, ?_, ?_⟩⟩⟩
  · rw [upd_ne hne, upd_same]
  · rw [upd_ne hne] at hd
    exact hd
  · rw [upd_ne hne] at hd
    have e : upd (del (upd (upd (upd H1 a (exo a (He.ga X.K nm) none)) dx (exd dx [(f, v)])) a (exo a (He.ga X.K nm) (some dx))) a) dx (.xd [(f, v)]) = upd H1 dx (.xd [(f, v)]) := by
      funext b
      by_cases hb : b = dx
      · rw [hb, upd_same, upd_same]
      · rw [upd_ne hb, upd_ne hb]
        by_cases hba : b = a
        · rw [hba, del_same, ha]
        · rw [del_ne hba, upd_ne hba, upd_ne hb, upd_ne hba]
    rw [e]
    have k1 : D0.ex (He.ga X.K nm) [f] [o.t] ρ1 := k1
    exact q5 σ _ _ _ _ _ _ k1 (Sim.newX (os := fr ++ ρ1) (us := frv ++ σ) s1 hd)
/-! ### an except suite -/
def suiteD (D : ED) (i : Nat) : ED := { nx := fun ρ => D.nx (ρ.set i none), rt := D.rt, bk := fun ρ => D.bk (ρ.set i none), ct := fun ρ => D.ct (ρ.set i none) }
def xTry (Cs : Addr → Prop) (tst : Addr → Option Bool) (i : Nat) (xb : XS) (xs : Addr → Addr → Addr → XS) : XS := fun D ρ => xb { D with ex := fun C fs ts ρ1 => Cs C ∧ ∃ b, tst C = some b ∧
  (b = true → ∀ a d, xs a d C (suiteD D i) (ρ1.set i (some (.sh (.exn a d C fs ts))))) ∧ (b = false → D.ex C fs ts ρ1) } ρ
theorem Sim.unset {K : PySem.W.Frag} {B Wd H : Hp} {fr ρ : R} {frv σ : L2.St} (hl : fr.length = frv.length) (h : Sim K B Wd (fr ++ ρ) (frv ++ σ) H) (i : Nat) : Sim K B Wd (fr ++ ρ.set i none) (frv ++ σ.set i none) H := by
  have h1 : Sim K B Wd (none :: (fr ++ ρ)) (none :: (frv ++ σ)) H := by
    have hn := h.len
    refine h.via (fun j => if j = 0 then (fr ++ ρ).length else j - 1) (fun a b ha hb z => ?_) (by simpa using hn) fun j o e => ?_
    · simp only [List.length_cons] at ha hb
      split at z <;> split at z <;> omega
    · cases j with
      | zero => simp at e
      | succ j => exact ⟨by simpa using e, fun v => by simp⟩
  have h2 := h1.put (fr.length + i)
  rw [set_app, hl, set_app] at h2
  exact h2
variable {b₀ : Stmt} {suite body : List Stmt} {np : Pos} {xb : XS} {xs : Addr → Addr → Addr → XS} {c : Value}
theorem try_end {Cs : Addr → Prop} {i : Nat} {D : Ends} {σ : L2.St} {H : Hp} (h : lS X.K W (xTry Cs (fun C => PySem.W.exmOne X.K (.ref C) c) i xb xs) D σ H) :
    lS X.K (wAs X.K c i (fun a cls d D σ H => ∃ C dd, cls = .ref C ∧ d = some dd ∧ Cs C ∧ lS X.K W0 (xs a dd C) D σ H) W D) xb D σ H := by
  obtain ⟨B, Wd, fr, frv, ρ, D0, hl, s, hx, q1, q2, q3, q4, q5⟩ := h
  refine ⟨B, Wd, fr, frv, ρ, _, hl, s, hx, q1, q2, q3, q4, fun σ' C fs ts ρ' d H' ⟨hC, b, hb1, hy, hno⟩ s' => ⟨b, hb1, fun eb a ha => ⟨C, d, rfl, rfl, hC, B, Wd, fr, frv, _, _, hl, ?_, hy eb a d, ?_, ?_, ?_, q4, ?_⟩, fun eb => q5 σ' C fs ts ρ' d H' (hno eb) s'⟩⟩
  · obtain ⟨B', Wd', _, h2, back⟩ := Sim.front (as := [.sh (.xd fs ts)]) (va := [.ref d]) rfl s'
    obtain ⟨S, e1, e2, rx, bk⟩ := Smo.get1 h2
    obtain ⟨d', vs, ed, hS, hlen, rs⟩ := rx
    cases ed
    have h3 := back [.sh (.exn a d C fs ts)] [.ref a] H' (bk [.exn a d C fs ts] [.ref a] (reps1 ⟨rfl, vs, hS, hlen, rs⟩))
    exact Sim.setAt (fr := fr) (frv := frv) hl h3 i
  · exact fun ρ2 σ2 H2 k s2 => q1 _ _ _ k (s2.unset hl i)
  · exact fun ρ2 σ2 H2 k s2 => q2 _ _ _ k (s2.unset hl i)
  · exact fun ρ2 σ2 H2 k s2 => q3 _ _ _ k (s2.unset hl i)
  · exact fun _ _ _ _ _ _ _ z => z.elim
theorem ps_tryAs {Cs : Addr → Prop} (i : Nat) (hN : X.N.Nodup) (hc : Names X nm c) (tk : Takes X W)
    (hb : ∀ (W' : L2.WX) (pn : List (Addr × Obj)) (xe : Value → Shared → Prop), Takes (X.tr pn xe) W' → PassesOwn (model X.prog X.w) X.A X.env xe → PSst (X.tr pn xe) W' body xb)
    (hsu : ∀ (a : Addr) (oe : Obj) (C d : Addr) (pn : List (Addr × Obj)), Cs C → L2N.Zn (.ref C) (some d) oe → (∃ vs, oe.data = .fields vs) → PSst (X.suite a ((a, oe) :: pn)) W0 (b₀ :: suite) (xs a d C))
    (hi : X.N[i]? = some n := by rfl) (hln : X.env.kindOf n = some .local := by rfl) (hs : X.stack = X.env :: X.outer := by rfl) (hf : X.env.frame = some X.env.locals := by rfl) :
    PSt X W (.Try body [.ExceptHandler (some (.Name nm np)) (some n) (b₀ :: suite) pos'] [] [] pos) (xTry Cs (fun C => PySem.W.exmOne X.K (.ref C) c) i xb xs) := by
  refine PS.imp (L2N.ps_try_as (tb := fun W' => lS X.K W' xb) (ts := fun a cls d D σ H => ∃ C dd, cls = .ref C ∧ d = some dd ∧ Cs C ∧ lS X.K W0 (xs a dd C) D σ H) (Wout := W) hs hf hN hi hln hc tk hb
    fun a oe cls d pn z hd => ⟨fun pins s σ H D I ⟨C, dd, e1, e2, hC, h⟩ => by
      subst e1 e2
      exact (hsu a oe C dd pn hC z hd).run pins s σ H D I h⟩) fun D σ H h => try_end h
/-! ### asking the exception -/
/-- what isinstance needs of the class -/
structure Xq (K : PySem.W.Frag) (D : Addr) : Prop where
  cl : (PySem.W.clsIn K D).isSome = true
  hg : PySem.W.findIn K (.ref D) "__getattribute__" = some (some (.builtin "BaseException.__getattribute__"))
  hk : PySem.W.findIn K (.ref D) "__getattr__" = some none
  hs : PySem.W.subIn K (.ref D) (.type "BaseException") = some true
  hd : PySem.W.hasDictIn K D = true
  ha : PySem.W.findIn K (.ref D) "__class__" = some (some (.builtin "object.__class__"))
  hn : PySem.W.specialIn K (.builtin "object.__class__") "__get__" = some (some (.builtin "getset_descriptor.__get__"))
  ht : PySem.W.takesIn K (.builtin "object.__class__") = some true
  hm : PySem.W.mroIn K D (.type "object") = some true
/-- the context holds the exception a of the class C, its dict at d -/
def HoldsX (X : Cx) (a d C : Addr) : Prop := ∃ oe, (a, oe) ∈ X.pn ∧ L2N.Zn (.ref C) (some d) oe ∧ ∃ vs, oe.data = .fields vs
def rIsX (C a d : Addr) (K : PySem.W.Frag) : List V → Hp → VK → Prop := fun xs H Q => ∃ (c : V) (cv : Value) (b : Bool) (fs : List (Str × V)), xs = [.ref a, c] ∧ (∀ u, RelV c u → u = cv) ∧ H d = some (.xd fs) ∧ PySem.W.kitOne K (.ref C) cv = some b ∧ Q (.bl b) H
theorem call_isX {a d C : Addr} (hx : HoldsX X a d C) (q : Xq X.K C) : CallR X (.builtin "isinstance") (rIsX C a d X.K) := by
  intro pins s σ H xs us Q I r h
  obtain ⟨c, cv, b, fs, rfl, hcv, hd, e, hq⟩ := h
  obtain ⟨oe, hin, hz, vs, hv⟩ := hx
  obtain ⟨u, u2, rfl, ru, ru2⟩ : ∃ u u2, us = [u, u2] ∧ RelV (.ref a) u ∧ RelV c u2 := by
    cases r with
    | cons p q =>
      cases q with
      | cons p' q' =>
        cases q'
        exact ⟨_, _, rfl, p, p'⟩
  obtain rfl : u = Value.ref a := ru
  obtain rfl := hcv _ ru2
  have hget := (I.pin (a, oe) (List.mem_append.mpr (.inl hin))).1
  have hxd : ObjOk X.prog X.w H s.heap d (.xd fs) := I.hok d _ hd
  obtain ⟨mA, hns, hrr⟩ := hxd
  obtain ⟨od, ho, _⟩ := lookIn_ns hns
  have J : PySem.W.InstAt s.heap a oe C (some od) := ⟨hget, hz.1, by unfold PySem.W.notCls; rw [hv] <;> rfl, by rw [hz.2.1]; exact ho⟩
  exact PySem.W.kia_one (PySem.W.kitx_exc q.cl q.hg q.hk q.hs q.ha q.hn q.ht q.hm) I.kIn J e (fun z => nomatch z) fun tk => ⟨.bl b, H, I.kept (t' := tk) fun _ _ z => z, rfl, hq⟩
def xIsX (a d C : Addr) (tst : Option Bool) (x : XE) : XE := fun ρ K Z => x ρ (fun o ρ1 => match o.t with
  | .exn a' d' C' _ _ => a' = a ∧ d' = d ∧ C' = C ∧ (match tst with
    | some b => K (.sh (.bl b)) ρ1
    | none => False)
  | _ => False) Z
theorem pe_isX {a d C : Addr} {n2 : Str} {cv : Value} {c : V} {p0 p1 : Pos} (hx : HoldsX X a d C) (q : Xq X.K C) (hg : Gl X "isinstance") (hm : X.mg "isinstance" = none) (hn : PE X (.Name n2 p1) (tC c)) (hcv : ∀ u, RelV c u → u = cv) (ha : PEt X W e x)
    (he : starEach [e, .Name n2 p1] X.env = (false, eval e X.env) :: starEach [.Name n2 p1] X.env := by rfl) (he2 : starEach [.Name n2 p1] X.env = (false, eval (.Name n2 p1) X.env) :: starEach [] X.env := by rfl) (hpl : (backTo pos (starEach [.Name n2 p1] X.env)).any (·.1) = false := by rfl) :
    PEt X W (.Call (.Name "isinstance" p0) [e, .Name n2 p1] [] pos) (xIsX a d C (PySem.W.kitOne X.K (.ref C) cv) x) :=
  PE.imp (L2.pe_callB (call_isX hx q) hg hm (by decide +kernel) (L2.pa_cons ha (L2.pa_cons hn L2.pa_nil he2) he) (by decide) (by decide) he hpl) fun σ H Q ⟨B, Wd, fr, frv, ρ, K0, Z0, hl, s, hx, hK, hZ⟩ =>
    ⟨B, Wd, fr, frv, ρ, _, Z0, hl, s, hx, fun o ρ1 v H1 k1 s1 => by
      obtain ⟨S, h1, h2, rp⟩ := s1.rep
      split at k1
      · rename_i a' d' C' fs ts eo
        obtain ⟨rfl, rfl, rfl, k1⟩ := k1
        rw [eo] at rp
        obtain ⟨rfl, vs, hS, _, _⟩ := rp
        split at k1
        · rename_i b eb
          exact ⟨c, cv, b, _, rfl, hcv, h2 _ _ hS, eb, hK _ _ _ _ k1 (s1.drop.push fun _ => rfl)⟩
        · exact k1.elim
      · exact k1.elim, hZ⟩
/-- e.f -/
def xFld (a d C : Addr) (f : Str) (x : XE) : XE := fun ρ K Z => x ρ (fun o ρ1 => match o.t with
  | .exn a' d' C' fs ts => a' = a ∧ d' = d ∧ C' = C ∧ (match lookT fs ts f with
    | some t => K (.sh t) ρ1
    | none => False)
  | _ => False) Z
end
end TL

set_option maxHeartbeats 1000000
/-! [e for x in range(n) if c] in an except suite -/
namespace TL
open PySem PySem.Spec PyProof.Rows L2
/-- a block's context that keeps what is pinned -/
abbrev blkP (X : Cx) (s : Shared) (H : Hp) (scope : Scope) (cenv : Env) (fp : List Addr) : Cx := { X.blk s H scope cenv fp with pn := X.pn }
theorem Inv.keepPn {X : Cx} {s s' : Shared} {H0 H : Hp} {scope : Scope} {cenv : Env} {fp : List Addr} {σ : L2.St} (J : Inv (X.blk s H0 scope cenv fp) [] σ H s')
    (hp : ∀ p ∈ X.pn, s'.heap.get? p.1 = some p.2 ∧ H p.1 = none ∧ p.1 ≠ cenv.locals ∧ p.1 ∉ frs X.stack ∧ ∀ v, p.2.data ≠ .cell v) : Inv (blkP X s H0 scope cenv fp) [] σ H s' :=
  have k := J.ok
  ⟨⟨k.mod, k.kind, k.glob, k.blt, k.above, k.inj, k.has, k.cab, k.hd, k.frames, k.stk, k.exf, k.bs, k.bsz, k.noex, k.exfs, k.funs, k.frf⟩, J.os, J.bare, J.base, J.loc, J.cell, J.free, J.freeC,
    fun p h => hp p (by rw [List.append_nil] at h; exact h), J.hok, J.len⟩
def HotP (X : Cx) : Prop := ∃ p ∈ X.pn, X.A.handled = some (.ref p.1) ∧ ∃ vs : Array Value, p.2.data = .fields vs ∧ vs[2]? = some .none
section
variable {X : Cx} {n : Nat} {elt tg a : Expr} {ifs : List Expr} {scope : Scope} {own : List (Str × Nat)} {pos rp np : Pos} {ta : TA} {g : TG} {tt : TT} {te : TE}
theorem lcHot {pins : List (Addr × Obj)} {s : Shared} {σ : L2.St} {H : Hp} {Q : VK} {pos' : Pos} {use : Option (Value → Sem Unit)} {Qf : Value → Shared → Prop} (I : Inv X pins σ H s) (hot : HotP X) (hN : X.N.Nodup) (hg0 : Gl X "range") (hm : X.mg "range" = none) (ha : PA X [a] ta) (ok : BlkOk X.N X.env.scope scope own)
    (hg : ∀ (s : Shared) (H : Hp) (C : Addr) (cl : List (Str × Addr)) (fp : List Addr), PG (blkP X s H scope (compEnvC scope cl C X.env) fp) tg g) (ht : ∀ (s : Shared) (H : Hp) (C : Addr) (cl : List (Str × Addr)) (fp : List Addr), PTs (blkP X s H scope (compEnvC scope cl C X.env) fp) ifs tt)
    (he : ∀ (s : Shared) (H : Hp) (C : Addr) (cl : List (Str × Addr)) (fp : List Addr), PE (blkP X s H scope (compEnvC scope cl C X.env) fp) elt te)
    (hs : ∀ x, foldedSetIterable (.Call (.Name "range" np) [a] [] rp) X.env x = pure x) (hse : starEach [a] X.env = [(false, eval a X.env)]) (h : tLc (iRng1 ta) g tt te (own.map (·.2)) σ H Q)
    (fin : ∀ D C s' m H', Inv X pins σ H' s' → Q (.ref D) H' → s'.heap.Ns C m → FpOk X pins H' C → compPost (model X.prog X.w) X.A X.xe use Qf (.ref D) C (.ok .next) s') :
    wpAny (model X.prog X.w) X.A (comprehension (.ListComp elt [⟨tg, .Call (.Name "range" np) [a] [] rp, ifs, 0⟩] scope pos) scope X.env pos' (newList []) false (eval (.Call (.Name "range" np) [a] [] rp) X.env) use) Qf X.xe s := by
  obtain ⟨p0, hp0, hand, w0, hw0, hw2⟩ := hot
  have hfree : ∀ y ∈ scope.names, y.2 = .free → ∃ c, X.env.cells.lookup y.1 = some c := fun y hy e => I.ok.has _ ((ok.free y hy e).imp id id)
  have hc : L2H.HotC X := ⟨p0, ⟨hand, w0, hw0, hw2⟩, hp0⟩
  refine wpAny_comprehension_free (use := use) rfl hs (closure_ok hfree) ok.kind (fun y hy e => by rw [ok.uniq y hy, e]) (thn ((L2H.pi_range1H (tg := tg) hg0 hm ha hse).run pins s σ H _ I h) fun xv s1 hx => thn hx fun itv s2 h2 => ?_)
  obtain ⟨it, fp, tn, J, H2, rfl, I2, T, st2, f2, q⟩ := h2
  refine wpAny_newObj_type (newEnv_comp ?_) (by show 0 ≤ sizeLine; decide)
  let D := s2.heap.objs.size
  let s3 : Shared := { s2 with heap := s2.heap.push { cls := .type "list", data := .seq ([] : List Value).toArray } }
  have hDn : H2 D = none := I2.hok.fresh (Nat.le_refl _)
  obtain ⟨M, ⟨m0, w0'⟩, turn⟩ := q D hDn
  have I3 : Inv X pins σ (upd H2 D (.lst [])) s3 := I2.laid (t' := s2.toks) (fun b o e => Heap.get?_push_of_some _ e) (Nat.le_refl _) ⟨Nat.zero_le _, [], 0, .nil, Heap.get?_push_size _ rfl⟩
  have hsz : s3.heap.objs.size = s2.heap.objs.size + 1 := Heap.size_push ..
  have f3 : ∀ b ∈ fp, FpOk X pins (upd H2 D (.lst [])) b ∧ b < s3.heap.objs.size := fun b hb => by
    obtain ⟨o, e, _⟩ := T.obj _ _ st2 b hb
    have hlt := Heap.lt_size e
    exact ⟨⟨by rw [upd_ne (Nat.ne_of_lt hlt)]; exact (f2 b hb).1, (f2 b hb).2⟩, by rw [hsz]; exact Nat.lt_succ_of_lt hlt⟩
  have st3 : tn 0 s3.heap := T.keep _ _ _ st2 fun b _ o e => Heap.get?_push_of_some _ e
  let ce : Env := compEnvC scope (cellsFrom (s3.heap.objs.size + 1) scope.names (cloFrom X.env.cells scope.names [])) s3.heap.objs.size X.env
  let s4 : Shared := { s3 with heap := pushCells (s3.heap.push { cls := .type "dict", data := .dict #[] }) scope.names }
  have up4 : ∀ b o, s3.heap.get? b = some o → s4.heap.get? b = some o := fun b o e => pushCells_keeps _ _ _ _ (Heap.get?_push_of_some _ e)
  let Y : Cx := blkP X s3 (upd H2 D (.lst [])) scope ce fp
  have I4 : Inv Y [] (wipe σ (own.map (·.2))) (upd H2 D (.lst [])) s4 := Inv.keepPn (block_start I3 ok hN f3) fun p hp => by
    obtain ⟨e1, e2, e3, e4, e5⟩ := I3.pin p (List.mem_append_left _ hp)
    exact ⟨up4 _ _ e1, e2, Nat.ne_of_lt (Heap.lt_size e1), fun z => (List.mem_cons.mp (I3.stkSub p.1 z)).elim e3 e4, e5⟩
  have hcY : L2H.HotC Y := hc
  have pg := hg s3 (upd H2 D (.lst [])) s3.heap.objs.size (cellsFrom (s3.heap.objs.size + 1) scope.names (cloFrom X.env.cells scope.names [])) fp
  have pt := ht s3 (upd H2 D (.lst [])) s3.heap.objs.size (cellsFrom (s3.heap.objs.size + 1) scope.names (cloFrom X.env.cells scope.names [])) fp
  have pe := he s3 (upd H2 D (.lst [])) s3.heap.objs.size (cellsFrom (s3.heap.objs.size + 1) scope.names (cloFrom X.env.cells scope.names [])) fp
  show codeAny _ _ (.compStart (.ListComp elt [⟨tg, .Call (.Name "range" np) [a] [] rp, ifs, 0⟩] scope pos) 0 (.ref it) (.ref D) ce) (compPost (model X.prog X.w) X.A X.xe use Qf (.ref D) s3.heap.objs.size) s4
  have stat : ∀ {H' : Hp} {s' : Shared} {σ' : L2.St}, Inv Y [] σ' H' s' → (∀ b ∈ fp, H' b = none) → ∀ b ∈ fp, FpOk Y [] H' b := fun {H' s' σ'} I' hn b hb =>
    ⟨hn b hb, (I'.ok.exf b hb).1, I'.ok.exfs b hb, .inl hb, fun x c e => (I'.ok.exf b hb).2 x c e, fun p hp => (f3 b hb).1.2.2.2.2.2 p (by rw [List.append_nil] at hp; exact List.mem_append_left _ hp)⟩
  have loop : codeAny (model X.prog X.w) X.A (.compLoop (.ListComp elt [⟨tg, .Call (.Name "range" np) [a] [] rp, ifs, 0⟩] scope pos) 0 (.ref it) (.ref D) ce) (compPost (model X.prog X.w) X.A X.xe use Qf (.ref D) s3.heap.objs.size) s4 := by
    refine compLoop_any (fun k s' => ∃ i H', Inv Y [] (wipe σ (own.map (·.2))) H' s' ∧ tn i s'.heap ∧ (∀ b ∈ fp, H' b = none) ∧ M i k H') ?_ m0 ⟨0, _, I4, T.keep _ _ _ st3 fun b _ o e => up4 b o e, fun b hb => (f3 b hb).1.1, w0'⟩
    rintro k s5 ⟨i, H5, I5, st5, n5, w5⟩
    rcases turn i k H5 w5 with ⟨stop, qq⟩ | ⟨go, Nx, hNx, step⟩
    · refine thnF (T.done Y rfl rfl rfl hcY i [] s5 _ H5 (fun _ _ => False) I5 (stat I5 n5) st5 stop) fun r s6 ⟨hr, I6⟩ => ?_
      subst hr
      have I7 : Inv X pins σ H5 s6 := I3.call' (ch := fp) I6.os I6.base I6.hok I6.bare fun b hb => ⟨(f3 b hb).1.2.2.2.1, (f3 b hb).1.2.1, (f3 b hb).1.2.2.2.2.1, (f3 b hb).1.2.2.2.2.2⟩
      obtain ⟨m, hn, _⟩ := I6.loc
      exact fin D s3.heap.objs.size s6 m H5 I7 qq hn (I3.fpOk (H' := H5) (Nat.le_refl _) I6.free)
    · refine thnF (T.item Y rfl rfl rfl hcY i [] s5 _ H5 (fun _ _ => False) I5 (stat I5 n5) st5 go) fun r s6 ⟨u, hr, h6⟩ => ?_
      subst hr
      refine thnF h6 fun _ s7 ⟨x, H7, I7, r7, y7, st7, n7⟩ => ?_
      refine thnF (pg.run _ s7 _ H7 x u _ (I7.pinned (stat I7 n7) (T.obj _ _ st7)) r7 (step x H7 y7)) fun _ s8 ⟨σ8, H8, I8, hw8, q8⟩ => thnF (pt.run _ s8 σ8 H8 _ I8 q8) fun b s9 ⟨H9, I9, q9⟩ => ?_
      have next : ∀ {s' : Shared} {H' : Hp}, Inv Y ([] ++ pinsAt fp s7.heap) σ8 H' s' → Nx H' → ∃ m, m < k ∧ ∃ i H', Inv Y [] (wipe σ (own.map (·.2))) H' s' ∧ tn i s'.heap ∧ (∀ b ∈ fp, H' b = none) ∧ M i m H' := fun {s' H'} I' nx => by
        obtain ⟨m', hm', w'⟩ := hNx H' nx
        have same : ∀ b ∈ fp, ∀ o, s7.heap.get? b = some o → s'.heap.get? b = some o ∧ H' b = none := fun b hb o e =>
          ⟨(I'.pin (b, o) (List.mem_append_right _ (List.mem_append_right _ (mem_pinsAt hb e)))).1, (I'.pin (b, o) (List.mem_append_right _ (List.mem_append_right _ (mem_pinsAt hb e)))).2.1⟩
        refine ⟨m', hm', i + 1, H', (I'.unpinned (pins := [])).weak (by rw [← hw8, wipe_length]) fun j v e => ?_, T.keep _ _ _ st7 fun b hb o e => (same b hb o e).1, fun b hb => ?_, w'⟩
        · rw [← hw8] at e
          exact (wipe_some e).1
        · obtain ⟨o, e, _⟩ := T.obj _ _ st7 b hb
          exact (same b hb o e).2
      cases b with
      | true =>
        simp only [if_true] at q9 ⊢
        exact thnF (pe.run _ s9 σ8 H9 _ I9 q9) fun z s10 ⟨yv, H10, I10, r10, acc, hD10, hz10, nx⟩ => app_ok (X := Y) I10 hD10 hz10 r10 fun s11 I11 => next I11 nx
      | false =>
        simp only [Bool.false_eq_true, if_false] at q9 ⊢
        exact next I9 q9
  exact codeAny_compStart_list loop (T.self X.A 0 _ _ _ (T.keep _ _ _ st3 fun b _ o e => up4 b o e) loop)
theorem pe_lcHot (hot : HotP X) (hN : X.N.Nodup) (hg0 : Gl X "range") (hm : X.mg "range" = none) (ha : PA X [a] ta) (ok : BlkOk X.N X.env.scope scope own)
    (hg : ∀ (s : Shared) (H : Hp) (C : Addr) (cl : List (Str × Addr)) (fp : List Addr), PG (blkP X s H scope (compEnvC scope cl C X.env) fp) tg g) (ht : ∀ (s : Shared) (H : Hp) (C : Addr) (cl : List (Str × Addr)) (fp : List Addr), PTs (blkP X s H scope (compEnvC scope cl C X.env) fp) ifs tt)
    (he : ∀ (s : Shared) (H : Hp) (C : Addr) (cl : List (Str × Addr)) (fp : List Addr), PE (blkP X s H scope (compEnvC scope cl C X.env) fp) elt te)
    (hs : ∀ x, foldedSetIterable (.Call (.Name "range" np) [a] [] rp) X.env x = pure x) (hse : starEach [a] X.env = [(false, eval a X.env)]) : PE X (.ListComp elt [⟨tg, .Call (.Name "range" np) [a] [] rp, ifs, 0⟩] scope pos) (tLc (iRng1 ta) g tt te (own.map (·.2))) :=
  ⟨fun pins s σ H Q I h => by
    rw [eval_ListComp]
    refine lcHot I hot hN hg0 hm ha ok hg ht he hs hse h fun D C s' m H' I' q hn f => ⟨m, hn, fun h'' sb => ?_⟩
    obtain ⟨g0, g1, g2, g3, g4, g5⟩ := f
    exact ⟨.ref D, H', I'.turned (t' := s'.toks) (fun b o hb e => (sb.2 b hb).trans e) g0 g1 g3 g4 g5, rfl, q⟩⟩
theorem ps_setLcHot {i : Nat} {y : Str} {py spos : Pos} (hy : X.N[i]? = some y) (hyl : X.env.scope.names.lookup y = some .local) (hsw : swapsWith (.ListComp elt [⟨tg, .Call (.Name "range" np) [a] [] rp, ifs, 0⟩] scope pos) (some (.Name y py)) spos.line X.env = pure true)
    (hot : HotP X) (hN : X.N.Nodup) (hg0 : Gl X "range") (hm : X.mg "range" = none) (ha : PA X [a] ta) (ok : BlkOk X.N X.env.scope scope own)
    (hg : ∀ (s : Shared) (H : Hp) (C : Addr) (cl : List (Str × Addr)) (fp : List Addr), PG (blkP X s H scope (compEnvC scope cl C X.env) fp) tg g) (ht : ∀ (s : Shared) (H : Hp) (C : Addr) (cl : List (Str × Addr)) (fp : List Addr), PTs (blkP X s H scope (compEnvC scope cl C X.env) fp) ifs tt)
    (he : ∀ (s : Shared) (H : Hp) (C : Addr) (cl : List (Str × Addr)) (fp : List Addr), PE (blkP X s H scope (compEnvC scope cl C X.env) fp) elt te)
    (hs : ∀ x, foldedSetIterable (.Call (.Name "range" np) [a] [] rp) X.env x = pure x) (hse : starEach [a] X.env = [(false, eval a X.env)]) :
    PS X (.Assign [.Name y py] (.ListComp elt [⟨tg, .Call (.Name "range" np) [a] [] rp, ifs, 0⟩] scope pos) spos) (tAsg (tLc (iRng1 ta) g tt te (own.map (·.2))) (gName i)) :=
  ⟨fun pins s σ H D I h => by
    rw [exec_Assign_Name_used _ _ _ _ hsw]
    refine wpAny_bind (wpAny_standAt (wpAny_bind (wpAny_bind ?_)))
    have h : tLc (iRng1 ta) g tt te (own.map (·.2)) σ H (fun x H1 => gName i x σ H1 D.nx) := h
    refine thn (lcHot (Qf := fun _ s' => SP X pins D .next s') I hot hN hg0 hm ha ok hg ht he hs hse h fun L C s' m H' I' q hn f => ?_) fun _ s' hq => wpAny_pure (wpAny_pure hq)
    refine wpAny_assign_Name (store_ok2 (v := V.ref L) I' hN hy (.inl hyl) rfl (fun s2 I2 ⟨z, sb, hz⟩ => ?_) (.inr hyl))
    obtain ⟨g0, g1, g2, g3, g4, g5⟩ := f
    have hne : C ≠ z := hz.elim (fun e => by rw [e]; exact g1) fun e => fun w => g4 y z e w.symm
    exact ⟨m, hn.sameBut sb hne, fun h3 sb3 => ⟨_, H', I2.turned (t' := s2.toks) (fun b o hb e => (sb3.2 b hb).trans e) g0 g1 g3 g4 g5, q⟩⟩⟩
end
/-! over trees -/
section
variable {X : Cx} {W : L2.WX} {y : XA}
theorem rng1_ok {σ : L2.St} {H : Hp} {R : It → Hp → Prop} (h : lI X.K W (xRng1 y) σ H R) : iRng1 (lA X.K W y) σ H R := by
  obtain ⟨B, Wd, fr, frv, ρ, K0, Z0, hl, s, hx, hK, hZ⟩ := h
  refine ⟨B, Wd, fr, frv, ρ, _, Z0, hl, s, hx, fun os ρ1 vs H1 hle k1 s1 => ?_, hZ⟩
  obtain ⟨S, e1, e2, rp, s2⟩ := stack_reps hle s1
  split at k1
  · rename_i j q
    rw [q] at rp
    obtain ⟨v, r, rfl, rv, rr⟩ := rp
    have rr' : r = [] := rr
    subst rr'
    exact ⟨j, congrArg (fun z => [z]) (show v = .int j from rv), k1.1.1, k1.1.2, hK _ _ _ _ _ k1.2 e1 s2 iter_range⟩
  · exact k1.elim
variable {elt tg a : Expr} {ifs : List Expr} {scope : Scope} {own : List (Str × Nat)} {pos rp np : Pos} {g : XG} {tt : XT} {x : XE} {sl : List Nat}
theorem ps_setLcH (i : Nat) {n : Str} {py spos : Pos} (hot : HotP X) (hN : X.N.Nodup) (hg0 : Gl X "range") (hm : X.mg "range" = none) (ha : PAt X W [a] y) (ok : BlkOk X.N X.env.scope scope own) (ho : ∀ i ∈ sl, i ∈ own.map (·.2))
    (hg : ∀ (s : Shared) (H : Hp) (C : Addr) (cl : List (Str × Addr)) (fp : List Addr), PGt (blkP X s H scope (compEnvC scope cl C X.env) fp) sl tg g) (ht : ∀ (s : Shared) (H : Hp) (C : Addr) (cl : List (Str × Addr)) (fp : List Addr), PTst (blkP X s H scope (compEnvC scope cl C X.env) fp) W0 ifs tt)
    (he : ∀ (s : Shared) (H : Hp) (C : Addr) (cl : List (Str × Addr)) (fp : List Addr), PEt (blkP X s H scope (compEnvC scope cl C X.env) fp) W0 elt x)
    (hy : X.N[i]? = some n := by rfl) (hyl : X.env.scope.names.lookup n = some .local := by rfl) (hsw : swapsWith (.ListComp elt [⟨tg, .Call (.Name "range" np) [a] [] rp, ifs, 0⟩] scope pos) (some (.Name n py)) spos.line X.env = pure true := by exact sw_true rfl rfl rfl (by decide +kernel))
    (hs : ∀ x, foldedSetIterable (.Call (.Name "range" np) [a] [] rp) X.env x = pure x := by intro _; rfl) (hse : starEach [a] X.env = [(false, eval a X.env)] := by rfl) :
    PSt X W (.Assign [.Name n py] (.ListComp elt [⟨tg, .Call (.Name "range" np) [a] [] rp, ifs, 0⟩] scope pos) spos) (xAsg (xLc (xRng1 y) g tt x (own.map (·.2))) (gN i)) :=
  PS.imp (ps_setLcHot (g := lG X.K sl g) (tt := lT X.K W0 tt) (te := lE X.K W0 x) hy hyl hsw hot hN hg0 hm ha ok hg ht he hs hse) fun D σ H ⟨B, Wd, fr, frv, ρ, D0, hl, s, hx, q1, q2, q3, q4, q5⟩ => by
    have h : tLc (lI X.K W (xRng1 y)) (lG X.K sl g) (lT X.K W0 tt) (lE X.K W0 x) (own.map (·.2)) σ H (fun v H1 => L2.gName i v σ H1 D.nx) :=
      lc_ok (W := W) ho ⟨B, Wd, fr, frv, ρ, _, _, hl, s, hx, fun o ρ1 v H1 k1 e1 => q1 _ _ _ k1 (e1.setAt hl i), q5 σ⟩
    exact rng1_ok h
theorem pe_lcH (hot : HotP X) (hN : X.N.Nodup) (hg0 : Gl X "range") (hm : X.mg "range" = none) (ha : PAt X W [a] y) (ok : BlkOk X.N X.env.scope scope own) (ho : ∀ i ∈ sl, i ∈ own.map (·.2))
    (hg : ∀ (s : Shared) (H : Hp) (C : Addr) (cl : List (Str × Addr)) (fp : List Addr), PGt (blkP X s H scope (compEnvC scope cl C X.env) fp) sl tg g) (ht : ∀ (s : Shared) (H : Hp) (C : Addr) (cl : List (Str × Addr)) (fp : List Addr), PTst (blkP X s H scope (compEnvC scope cl C X.env) fp) W0 ifs tt)
    (he : ∀ (s : Shared) (H : Hp) (C : Addr) (cl : List (Str × Addr)) (fp : List Addr), PEt (blkP X s H scope (compEnvC scope cl C X.env) fp) W0 elt x)
    (hs : ∀ x, foldedSetIterable (.Call (.Name "range" np) [a] [] rp) X.env x = pure x := by intro _; rfl) (hse : starEach [a] X.env = [(false, eval a X.env)] := by rfl) :
    PEt X W (.ListComp elt [⟨tg, .Call (.Name "range" np) [a] [] rp, ifs, 0⟩] scope pos) (xLc (xRng1 y) g tt x (own.map (·.2))) :=
  PE.imp (pe_lcHot (g := lG X.K sl g) (tt := lT X.K W0 tt) (te := lE X.K W0 x) hot hN hg0 hm ha ok hg ht he hs hse) fun σ H Q h => by
    have h2 := lc_ok (W := W) (Q := Q) ho h
    exact rng1_ok h2
/-! e.f in a suite -/
theorem Reps.look {K : PySem.W.Frag} {S : Hp} {f : Str} {t : T} : ∀ {fs : List Str} {ts : List T} {vs : List V}, Reps K S ts vs → fs.length = ts.length → lookT fs ts f = some t → ∃ w, (fs.zip vs).lookup f = some w ∧ Rep K S t w
  | [], ts, vs, r, hl, h => by simp [lookT] at h
  | g :: fs, [], vs, r, hl, h => by simp at hl
  | g :: fs, u :: ts, vs, r, hl, h => by
    obtain ⟨v, vr, rfl, h1, h2⟩ := r
    unfold lookT at h
    rw [List.zip_cons_cons, List.lookup_cons] at h ⊢
    cases q : f == g with
    | true =>
      rw [q] at h
      cases h
      exact ⟨v, rfl, h1⟩
    | false =>
      rw [q] at h
      exact Reps.look h2 (by simpa using hl) h
variable {C d p : Addr} {oe : Obj} {pn : List (Addr × Obj)} {e : Expr} {f : Str}
theorem pe_fld (T : XfC X.K C) (hno : PySem.W.findIn X.K (.ref C) f = some none) (hz : L2N.Zn (.ref C) (some d) oe) (hf : ∃ vs, oe.data = .fields vs) (he : PEt (X.suite p ((p, oe) :: pn)) W e x)
    (hb : attributeBase e f X.env (eval e X.env) = eval e X.env := by rfl) : PEt (X.suite p ((p, oe) :: pn)) W (.Attribute e f pos) (xFld p d C f x) :=
  PE.imp (pe_xf (d := some d) T hno (L2N.Zn.zc hz) hf he hb) fun σ H Q ⟨B, Wd, fr, frv, ρ, K0, Z0, hl, s, hx, hK, hZ⟩ => ⟨B, Wd, fr, frv, ρ, _, Z0, hl, s, hx, fun o ρ1 v H1 k1 s1 => by
    obtain ⟨B', Wd', _, h3, back⟩ := Sim.front (as := [.sh o.t]) (va := [v]) rfl s1.frz1
    obtain ⟨S, h1, h2, rp, bk⟩ := Smo.get1 h3
    split at k1
    · rename_i a' d' C' fs ts eo
      obtain ⟨rfl, rfl, rfl, k1⟩ := k1
      rw [eo] at rp
      obtain ⟨rfl, vs, hS, hlen, rs⟩ := rp
      split at k1
      · rename_i t et
        obtain ⟨w, e1, e2⟩ := Reps.look rs hlen et
        exact ⟨rfl, rfl, d', fs.zip vs, w, rfl, h2 _ _ hS, e1, hK _ _ _ _ k1 (back [.sh t] [w] _ (bk [t] [w] (reps1 e2)))⟩
      · exact k1.elim
    · exact k1.elim, hZ⟩
end
end TL

namespace TL
open PySem PySem.Spec PyProof.Rows L2
theorem bt_ValueError : bootBuiltins "ValueError" = some (.type "ValueError") := by decide +kernel
/-- the classes of these names -/
def csK (K : PySem.W.Frag) (ns : List Str) : Addr → Prop := fun C => ∃ n ∈ ns, C = He.ga K n
theorem hotP_suite {X : Cx} {a : Addr} {oe : Obj} {pn : List (Addr × Obj)} {cls : Value} {d : Option Addr} (hz : L2N.Zn cls d oe) (hf : ∃ vs, oe.data = .fields vs) : HotP (X.suite a ((a, oe) :: pn)) :=
  let ⟨vs, hv⟩ := hf; ⟨(a, oe), List.mem_cons_self, rfl, vs, hv, hz.2.2 vs hv⟩
theorem holds_suite {X : Cx} {a d C : Addr} {oe : Obj} {pn : List (Addr × Obj)} (hz : L2N.Zn (.ref C) (some d) oe) (hf : ∃ vs, oe.data = .fields vs) : HoldsX (X.suite a ((a, oe) :: pn)) a d C := ⟨oe, List.mem_cons_self, hz, hf⟩
/-! list(range(n)) -/
def xListRg (x : XE) : XE := fun ρ K Z => x ρ (fun o ρ1 => match o.t with
  | .int n => -(2 ^ 62) ≤ n ∧ n ≤ 2 ^ 24 ∧ K (.lst ((rangeL 0 n.toNat).map .sh)) ρ1
  | _ => False) Z
section
variable {X : Cx} {W : L2.WX} {a : Expr} {x : XE} {p p2 pos pos2 : Pos}
theorem reps_ints {K : PySem.W.Frag} {S : Hp} (f : Nat → Int) : ∀ (l : List Nat), Reps K S (l.map fun i => .int (f i)) (l.map fun i => .int (f i))
  | [] => rfl
  | i :: l => ⟨_, _, rfl, rfl, reps_ints f l⟩
theorem pet_listRg (hg : Gl X "list") (hm : X.mg "list" = none) (hg2 : Gl X "range") (hm2 : X.mg "range" = none) (ha : PEt X W a x) (hc : X.calm = true := by rfl)
    (na : starEach [.Call (.Name "range" p2) [a] [] pos2] X.env = (false, eval (.Call (.Name "range" p2) [a] [] pos2) X.env) :: starEach [] X.env := by rfl) (na2 : starEach [a] X.env = (false, eval a X.env) :: starEach [] X.env := by rfl) :
    PEt X W (.Call (.Name "list" p) [.Call (.Name "range" p2) [a] [] pos2] [] pos) (xListRg x) :=
  PE.imp (L2.pe_listRg hc hg hm (prg_1 hg2 hm2 ha na2) na) fun σ H Q ⟨B, Wd, fr, frv, ρ, K0, Z0, hl, s, hx, hK, hZ⟩ => ⟨B, Wd, fr, frv, ρ, _, Z0, hl, s, hx, fun o ρ1 v H1 k1 s1 => by
    obtain ⟨B', Wd', _, h3, back⟩ := Sim.front (as := [.sh o.t]) (va := [v]) rfl s1.frz1
    obtain ⟨S, h1, h2, rp, bk⟩ := Smo.get1 h3
    split at k1
    · rename_i n en
      rw [en] at rp
      obtain ⟨k0, k1, k2⟩ := k1
      refine ⟨n, rp, ⟨by omega, by omega, k0, by omega, by omega⟩, fun q hq => hK _ _ _ _ k2 ?_⟩
      have h4 := bk (rangeL 0 n.toNat) (rgV 0 n) (by
        unfold rangeL rgV
        rw [Int.sub_zero]
        exact reps_ints (fun i => 0 + (i : Int)) _)
      exact back [_] [_] _ (h4.newL hq)
    · exact k1.elim, hZ⟩
end
end TL

set_option maxHeartbeats 2000000
/-! except C as e, where e is a cell -/
namespace TL
open PySem PySem.Spec PyProof.Rows L2
section
variable {X : Cx} {pins : List (Addr × Obj)} {σ : L2.St} {H : Hp} {s : Shared}
theorem Inv.cellOff (I : Inv X pins σ H s) (hN : X.N.Nodup) {i : Nat} {n : Str} {c : Addr} {h' : Heap} {w0 w : Option Value} {tk : Nat} (hi : X.N[i]? = some n) (hfn : X.fn n = true) (hc : X.env.cells.lookup n = some c) (hz : s.heap.IsCell c w0) (hc' : h'.IsCell c w) (hs : Heap.SameBut c s.heap h') :
    Inv X pins (σ.set i none) H { s with heap := h', toks := tk } := by
  obtain ⟨m, hn, hl⟩ := id I.loc
  obtain ⟨oc, hoc, hod⟩ := hz
  have far : ∀ b o, X.s_0.heap.get? b = some o → b ≠ c := fun b o e => Nat.ne_of_lt (Nat.lt_of_lt_of_le (Heap.lt_size e) (I.ok.cab n c hfn hc))
  refine ⟨I.ok, I.os, I.bare, ⟨fun b o e f hb hx => (hs.2 b (far b o e)).trans (I.base.keep b o e f hb hx), fun b o e f hb hx => ?_, I.base.free, fun b o e hx => ?_, I.base.tups, I.base.frzs, I.base.tbls⟩,
    ⟨m, hn.sameBut hs (Ne.symm (I.cne n c hc)), fun j y v e1 e2 e3 => ?_⟩, fun y c' e => ?_, I.free, I.freeC, fun p hp => ?_, fun b ob e => ?_, by simpa using I.len⟩
  · obtain ⟨sl, q⟩ := I.base.slot b o e f hb hx
    exact ⟨sl, (hs.2 b (far b o e)).trans q⟩
  · obtain ⟨u, q⟩ := I.base.there b o e hx
    exact ⟨u, (hs.2 b (far b o e)).trans q⟩
  · by_cases hj : j = i
    · subst hj
      rw [List.getElem?_set] at e2
      simp at e2
    · rw [List.getElem?_set_ne (Ne.symm hj)] at e2
      obtain ⟨u, r, q⟩ := hl j y v e1 e2 e3
      rcases q with q | ⟨k, c', e, z⟩
      · exact ⟨u, r, .inl q⟩
      · exact ⟨u, r, .inr ⟨k, c', e, z.sameBut hs fun z => hj (nodup_ix hN e1 (I.ok.inj _ _ _ (z ▸ e) hc ▸ hi))⟩⟩
  · by_cases hcc : c' = c
    · rw [hcc]
      exact ⟨_, hc'⟩
    · obtain ⟨w2, z2⟩ := I.cell y c' e
      exact ⟨w2, z2.sameBut hs hcc⟩
  · obtain ⟨e, f, g, k, d⟩ := I.pin p hp
    refine ⟨(hs.2 p.1 fun z => ?_).trans e, f, g, k, d⟩
    rw [z, hoc] at e
    exact d w0 (by rw [← Option.some.inj e]; exact hod)
  · refine (I.hok b ob e).stay (fun c2 w2 hc2 q => (hs.2 c2 fun z => ?_).trans q) (fun _ q => q) fun _ _ q => q
    have hf := I.freeC n c hc
    subst z
    rcases hc2 with z | z
    · rw [← z, hf] at e; cases e
    · rw [hf] at z; cases z
theorem goneCell {M : Model} {A : Around} {E : Value → Shared → Prop} {i : Nat} {n : Str} {pos : Pos} {Q : Unit → Shared → Prop} (I : Inv X pins σ H s) (hN : X.N.Nodup) (hi : X.N[i]? = some n) (hl : X.env.kindOf n = some .cell) (hfn : X.fn n = true)
    (h : ∀ s', Inv X pins (σ.set i none) H s' → Q () s') : wpAny M A (do bindName X.env n .none; unbindBehindTheSuite X.env n pos) Q E s := by
  refine wpAny_bind (wpAny_bindName (store_ok (v := .non) I hN hi (.inr hl) rfl (fun s1 I1 => ?_) (.inl hfn)))
  obtain ⟨c, hc⟩ := I1.ok.has n (.inl hl)
  obtain ⟨m, hn, look⟩ := id I1.loc
  have hlt : i < σ.length := by rw [I.len]; exact (List.getElem?_eq_some_iff.mp hi).1
  obtain ⟨u, _, q⟩ := look i n .non hi (by rw [List.getElem?_set_self hlt]) (.inr (.inl hl))
  have z : s1.heap.IsCell c (some u) := by
    rcases q with ⟨k, _⟩ | ⟨_, c', e, z⟩
    · rw [hl] at k; cases k
    · rw [hc] at e; cases e
      exact z
  unfold unbindBehindTheSuite
  refine wpAny_onRaise ?_
  unfold unbindName
  refine wpAny_bind (wpAny_point (wpAny_bind ?_))
  unfold deleteName
  simp only [hl]
  refine wpAny_bind (wpAny_cellOf hc (wpAny_bind (wpAny_cellGet z ?_)))
  simp only [Option.isSome_some, if_true]
  refine wpAny_cellSet z fun h' hc' hs => wpAny_point (h _ ?_)
  have J := Inv.cellOff I1 hN (tk := s1.toks) hi hfn hc z hc' hs
  rw [List.set_set] at J
  first
    | exact J
    | exact J.tok _
end
section
variable {X : Cx} {x n : Str} {c : Value} {i : Nat} {body suite : List Stmt} {b₀ : Stmt} {np pos pos' : Pos} {tb : L2.WX → TS} {ts : Addr → Value → Option Addr → TS} {Wout : L2.WX}
theorem ps_tryC (hs : X.stack = X.env :: X.outer) (hf : X.env.frame = some X.env.locals) (hN : X.N.Nodup) (hi : X.N[i]? = some n) (hl : X.env.kindOf n = some .cell) (hfn : X.fn n = true) (hc : Names X x c) (tk : Takes X Wout)
    (hb : ∀ (W : L2.WX) (pn : List (Addr × Obj)) (xe : Value → Shared → Prop), Takes (X.tr pn xe) W → PassesOwn (model X.prog X.w) X.A X.env xe → PSs (X.tr pn xe) body (tb W))
    (hsu : ∀ (a : Addr) (oe : Obj) (cls : Value) (d : Option Addr) (pn : List (Addr × Obj)), L2N.Zn cls d oe → (∃ vs, oe.data = .fields vs) → PSs (X.suite a ((a, oe) :: pn)) (b₀ :: suite) (ts a cls d)) :
    PS X (.Try body [.ExceptHandler (some (.Name x np)) (some n) (b₀ :: suite) pos'] [] [] pos) (fun D σ H => tb (wAs X.K c i ts Wout D) D σ H) := by
  refine ⟨fun pins s σ H D I h => ?_⟩
  have ok := I.ok
  have frames : X.A.frames = some (X.env :: X.outer) := ok.frames.trans (congrArg some hs)
  let caught : Value → Shared → Prop := fun e s₁ => wpAny (model X.prog X.w) X.A (noteFrame e X.env) (fun _ s₂ => wpAny (model X.prog X.w) X.A (setFlight e none) (fun _ s₃ =>
    wpAny (model X.prog X.w) X.A (handleBy e X.env [.ExceptHandler (some (.Name x np)) (some n) (b₀ :: suite) pos']) (SP X pins D) X.xe s₃) X.xe s₂) X.xe s₁
  have catches : Takes (X.tr (X.pn ++ pins) caught) (wAs X.K c i ts Wout D) := fun u s' xx => by
    obtain ⟨a, B, sI, pins', σ1, H1, cls, d, rfl, J', nb, up, sky, na, os, ag, b, hb1, yes, no⟩ := xx
    have J : Inv X pins σ1 H1 sI := J'.ofTry ok
    rw [show (X.tr (X.pn ++ pins) caught).stack = X.env :: X.outer from hs] at sky
    show wpAny (model X.prog X.w) X.A (noteFrame (.ref a) X.env) _ _ _
    refine L2N.Sky.land L2N.Zn.steady frames hf sky fun h3 fl3 up3 => ?_
    have J3 : Inv X pins σ1 H1 { s' with heap := h3 } := J.landed nb fl3.1 (up.trans up3) os ag
    obtain ⟨oe3, vs3, he3, hz3, hd3⟩ := fl3.there
    have nofr : a ∉ frs (X.env :: X.outer) := fun hm => by
      obtain ⟨_, o', e', hnf⟩ := fl3.2.2.1.mem hm
      rw [he3] at e'
      cases e'
      exact hnf _ hd3
    have nL : a ≠ X.env.locals := fun z => nofr (List.mem_filterMap.mpr ⟨X.env, List.mem_cons_self, by rw [hf, z]⟩)
    have nF : a ∉ X.fs := fun hm => by
      obtain ⟨e, he, q⟩ := List.mem_filterMap.mp hm
      exact nofr (List.mem_filterMap.mpr ⟨e, List.mem_cons_of_mem _ he, q⟩)
    have S3 := J3.suite he3 hd3 na nL nF
    have asked := PySem.W.exm_one (M := model X.prog X.w) J3.kIn (fun A Q E s k q => wpAny_typeOf_ref (k _ _ he3) (by rw [hz3.1]; exact q)) hb1
    have named : ∀ {Q : Value → Shared → Prop} {E : Value → Shared → Prop}, Q c { s' with heap := h3 } → wpAny (model X.prog X.w) (X.A.mark (some (.ref a))) (eval (.Name x np) X.env) Q E { s' with heap := h3 } := fun {Q E} q => by
      obtain ⟨hg, hdbg, hm | ⟨hm, hv, hnn⟩⟩ := hc
      · exact ld_glob (X := X.suite a ((a, oe3) :: (X.pn ++ pins))) S3 hg hm q hdbg
      · exact ld_blt (X := X.suite a ((a, oe3) :: (X.pn ++ pins))) S3 hg hm hv q hnn hdbg
    refine wpAny_handleBy_cons (codeAny_handlers_test (named (asked.here ?_))) (by intro q; cases q)
    rcases b with _ | _
    · show wpAny _ X.A (handleBy (.ref a) X.env []) _ _ _
      refine wpAny_handleBy_nil ?_
      obtain ⟨k1, k2, k3, oe, vs, T, oT, ts', he, hz, hd, h1, hr⟩ := id fl3
      unfold PySem.passOn
      refine wpAny_bind (wpAny_field he hd h1 ?_)
      rw [if_neg (show ¬ ((Value.ref T == Value.none) = true) from by simp)]
      have on : wpAny (model X.prog X.w) X.A (setFlight (.ref a) X.env.frame) (fun _ s4 => wpAny (model X.prog X.w) X.A (throw (.ref a) : Sem Flow) (SP X pins D) X.xe s4) X.xe { s' with heap := h3 } := by
        rw [hf]
        exact HandSPX.setFlight_upZ fl3 fun h4 hh4 up4 => wpAny_throw (tk _ _ ⟨a, B, sI, pins, σ1, H1, cls, d, rfl, J, nb, (up.trans up3).trans up4, .inr (.inr (by rw [hs]; exact hh4)), na, os, ag, no rfl⟩)
      first
        | exact wpAny_bind (wpAny_pure (wpAny_bind on))
        | exact wpAny_bind on
    · refine codeAny_handlers_suite_as (HandSPX.lands_againZ fl3 fun h4 fl4 up4 => ?_)
      have J4 : Inv X pins σ1 H1 { s' with heap := h4 } := J.landed nb fl4.1 ((up.trans up3).trans up4) os ag
      obtain ⟨oe4, vs4, he4, hz4, hd4⟩ := fl4.there
      refine store_ok (X := X.suite a ((a, oe4) :: (X.pn ++ pins))) (v := .ref a) (J4.suite he4 hd4 na nL nF) hN hi (.inr hl) rfl (fun s5 S5 => ?_) (.inl hfn)
      have last : ∀ {σ6 : L2.St} {H6 : Hp} {Q : Shared → Prop} {s6 : Shared}, Inv (X.suite a ((a, oe4) :: (X.pn ++ pins))) [] σ6 H6 s6 → (∀ s7, Inv X pins (σ6.set i none) H6 s7 → Q s7) →
          wpAny (model X.prog X.w) X.A (do bindName X.env n .none; unbindBehindTheSuite X.env n pos') (fun _ s7 => Q s7) X.xe s6 := fun S6 hq => goneCell (S6.unsuite ok) hN hi hl hfn hq
      refine wpAny_mono ((hsu a oe4 cls d (X.pn ++ pins) hz4 ⟨_, hd4⟩).run [] s5 _ H1 _ S5 (yes rfl a na)) (fun f s6 hsp => ?_) (fun _ _ z => False.elim z)
      cases f <;> first
        | (obtain ⟨v6, σ6, H6, S6, r6, q6⟩ := hsp; exact last S6 fun s7 J7 => ⟨_, _, _, J7, r6, q6⟩)
        | (obtain ⟨σ6, H6, S6, q6⟩ := hsp; exact last S6 fun s7 J7 => ⟨_, _, J7, q6⟩)
  refine wpAny_Try_except (wpAny_mono ((hb (wAs X.K c i ts Wout D) (X.pn ++ pins) caught catches PassesOwn.looking).run [] s σ H D (I.toTry _) h) (fun f s1 hsp => ?_) fun e s1 he => he)
  cases f with
  | next =>
    obtain ⟨σ', H', J', q⟩ := hsp
    exact wpAny_execs_nil ⟨σ', H', J'.ofTry ok, q⟩
  | brk =>
    obtain ⟨σ', H', J', q⟩ := hsp
    exact ⟨σ', H', J'.ofTry ok, q⟩
  | cont =>
    obtain ⟨σ', H', J', q⟩ := hsp
    exact ⟨σ', H', J'.ofTry ok, q⟩
  | ret u =>
    obtain ⟨v, σ', H', J', r, q⟩ := hsp
    exact ⟨v, σ', H', J'.ofTry ok, r, q⟩
variable {W : L2.WX} {nm : Str} {xb : XS} {xs : Addr → Addr → Addr → XS}
theorem ps_tryAsC {Cs : Addr → Prop} (i : Nat) (hN : X.N.Nodup) (hc : Names X nm c) (tk : Takes X W)
    (hb : ∀ (W' : L2.WX) (pn : List (Addr × Obj)) (xe : Value → Shared → Prop), Takes (X.tr pn xe) W' → PassesOwn (model X.prog X.w) X.A X.env xe → PSst (X.tr pn xe) W' body xb)
    (hsu : ∀ (a : Addr) (oe : Obj) (C d : Addr) (pn : List (Addr × Obj)), Cs C → L2N.Zn (.ref C) (some d) oe → (∃ vs, oe.data = .fields vs) → PSst (X.suite a ((a, oe) :: pn)) W0 (b₀ :: suite) (xs a d C))
    (hi : X.N[i]? = some n := by rfl) (hl : X.env.kindOf n = some .cell := by rfl) (hfn : X.fn n = true := by rfl) (hs : X.stack = X.env :: X.outer := by rfl) (hf : X.env.frame = some X.env.locals := by rfl) :
    PSt X W (.Try body [.ExceptHandler (some (.Name nm np)) (some n) (b₀ :: suite) pos'] [] [] pos) (xTry Cs (fun C => PySem.W.exmOne X.K (.ref C) c) i xb xs) := by
  refine PS.imp (ps_tryC (tb := fun W' => lS X.K W' xb) (ts := fun a cls d D σ H => ∃ C dd, cls = .ref C ∧ d = some dd ∧ Cs C ∧ lS X.K W0 (xs a dd C) D σ H) (Wout := W) hs hf hN hi hl hfn hc tk hb
    fun a oe cls d pn z hd => ⟨fun pins s σ H D I ⟨C, dd, e1, e2, hC, h⟩ => by
      subst e1 e2
      exact (hsu a oe C dd pn hC z hd).run pins s σ H D I h⟩) fun D σ H h => try_end h
end
end TL

namespace TL
open PySem PySem.Spec PyProof.Rows L2
/-- what a def does, told of its arguments' trees -/
abbrev GT := List T → (O → Prop) → ZX → Prop
/-- the same for a def that changes its first argument -/
abbrev GI := O → List T → (O → O → Prop) → ZX → Prop
abbrev GT.pf (g : GT) : PF := fun os => g (O.ts os)
abbrev GI.pf (g : GI) : IF := fun o os => g o (O.ts os)
def slots (m : Nat) (ts : List T) : R := ts.map (fun t => some (.sh t)) ++ List.replicate (m - ts.length) none
def endP (K0 : O → Prop) (Z0 : ZX) : ED := { nx := fun _ => K0 (.sh .non), rt := fun o _ => K0 o, ex := fun C fs ts _ => Z0 C fs ts }
def endI (v0 : V) (K0 : O → O → Prop) (Z0 : ZX) : ED := { nx := fun ρ => ∃ o', ρ[0]? = some (some (.io v0 o')) ∧ K0 (.sh .non) o', rt := fun o ρ => ∃ o', ρ[0]? = some (some (.io v0 o')) ∧ K0 o o', ex := fun C fs ts _ => Z0 C fs ts }
section
variable {P : Program} {w : World} {K : PySem.W.Frag} {mg : Str → Option Value} {base : Heap} {x : Str} {st : Stmt} {N ps : List Str} {k : Nat}
theorem sp_frz {g : GT} {vs : List V} {H : Hp} {Q : VK} {E : XK} (h : spP K g.pf vs H Q E) : ∃ ts, spP K (fun os K0 Z0 => os = ts.map O.sh ∧ g ts K0 Z0) vs H Q E := by
  obtain ⟨B, Wd, os, K0, Z0, h1, h2, h3, h4⟩ := h
  have hle : os.length = vs.length := by have := h1.len; simpa using this
  obtain ⟨B', Wd', _, h5, back⟩ := Sim.front (os := []) (vs := []) (as := os) (va := vs) hle (by simpa using h1)
  have h6 := back _ _ _ h5.frz
  exact ⟨O.ts os, B, Wd, (O.ts os).map .sh, K0, Z0, by simpa using h6, ⟨rfl, h2⟩, h3, h4⟩
theorem fn_PT {g : GT} (F : Df K mg x st ps) (S : FnScope N ps (defScope st)) (ar : ∀ ts K0 Z0, g ts K0 Z0 → ts.length = ps.length)
    (hbody : ∀ (cdv : Value) (A : Around) (outer : List Env) (s : Shared) (H : Hp) (E : XK), Room k (cxD P w K mg base N x st cdv A outer s H E).A → Takes (cxD P w K mg base N x st cdv A outer s H E) (wD E) →
      ∃ xs, PSst (cxD P w K mg base N x st cdv A outer s H E) (wD E) (defBody st) xs ∧ ∀ ts K0 Z0, g ts K0 Z0 → xs (endP K0 Z0) (slots N.length ts)) :
    Fn1 P w K mg base (k + 1) x ps (spP K g.pf) := by
  have F2 : Fn1 P w K mg base (k + 1) x ps (spP K fun os K0 Z0 => ∃ ts, os = ts.map O.sh ∧ g ts K0 Z0) := by
    refine fn_P F S (fun os K0 Z0 ⟨ts, e, h⟩ => by rw [e, List.length_map]; exact ar ts K0 Z0 h) fun cdv A outer s H E hr tk => ?_
    obtain ⟨xs, t, q⟩ := hbody cdv A outer s H E hr tk
    refine ⟨xs, t, fun os K0 Z0 ⟨ts, e, h⟩ => ?_⟩
    have := q ts K0 Z0 h
    subst e
    unfold slots endP at this
    rw [List.map_map, List.length_map]
    exact this
  refine ⟨F2.mgx, F2.kp, ?_⟩
  obtain ⟨fd, b, f⟩ := F2.ok
  have to : ∀ vs H Q E, spP K g.pf vs H Q E → spP K (fun os K0 Z0 => ∃ ts, os = ts.map O.sh ∧ g ts K0 Z0) vs H Q E := fun vs H Q E h => by
    obtain ⟨ts, B, Wd, os, K0, Z0, h1, h2, h3, h4⟩ := sp_frz h
    exact ⟨B, Wd, os, K0, Z0, h1, ⟨ts, h2⟩, h3, h4⟩
  exact ⟨fd, b, ⟨fun vs H Q E h => f.len vs H Q E (to _ _ _ _ h), fun A outer s H args us vs Q E r e0 bt rv h => f.run A outer s H args us vs Q E r e0 bt rv (to _ _ _ _ h)⟩⟩
theorem spI_frz {g : GI} {vs : List V} {H : Hp} {Q : VK} {E : XK} (h : spI K g.pf vs H Q E) : spI K (fun o os K0 Z0 => ∃ ts, os = ts.map O.sh ∧ g o ts K0 Z0) vs H Q E := by
  obtain ⟨B, Wd, o0, v0, os, us, K0, Z0, e, h1, h2, h3, h4⟩ := h
  have hle : os.length = us.length := by have := h1.len; simpa using this
  have h1' : Sim K B Wd (os.map some ++ [some o0]) (us.map some ++ [some v0]) H := by
    have := Sim.unrot (l1 := os.map some) (v1 := us.map some) (l2 := []) (v2 := []) (by simp [hle]) (by simpa using h1)
    exact this
  obtain ⟨B', Wd', _, h5, back⟩ := Sim.front (as := os) (va := us) hle h1'
  have h6 := back _ _ _ h5.frz
  have h7 : Sim K B Wd (some o0 :: (((O.ts os).map .sh).map some)) (some v0 :: us.map some) H := by
    have := Sim.rot (l1 := ((O.ts os).map O.sh).map some) (v1 := us.map some) (l2 := []) (v2 := []) (by simp [O.ts_map, hle]) (by simpa using h6)
    simpa using this
  exact ⟨B, Wd, o0, v0, (O.ts os).map .sh, us, K0, Z0, e, h7, ⟨_, rfl, h2⟩, h3, h4⟩
theorem fn_IT {g : GI} (F : Df K mg x st ps) (S : FnScope N ps (defScope st)) (ar : ∀ o ts K0 Z0, g o ts K0 Z0 → ts.length + 1 = ps.length)
    (hbody : ∀ (cdv : Value) (A : Around) (outer : List Env) (s : Shared) (H : Hp) (E : XK), Room k (cxD P w K mg base N x st cdv A outer s H E).A → Takes (cxD P w K mg base N x st cdv A outer s H E) (wD E) →
      ∃ xs, PSst (cxD P w K mg base N x st cdv A outer s H E) (wD E) (defBody st) xs ∧ ∀ v0 o0 ts K0 Z0, g o0 ts K0 Z0 → xs (endI v0 K0 Z0) (some (.io v0 o0) :: slots (N.length - 1) ts)) :
    Fn1 P w K mg base (k + 1) x ps (spI K g.pf) := by
  have F2 : Fn1 P w K mg base (k + 1) x ps (spI K fun o os K0 Z0 => ∃ ts, os = ts.map O.sh ∧ g o ts K0 Z0) := by
    refine fn_I F S (fun o os K0 Z0 ⟨ts, e, h⟩ => by rw [e, List.length_map]; exact ar o ts K0 Z0 h) fun cdv A outer s H E hr tk => ?_
    obtain ⟨xs, t, q⟩ := hbody cdv A outer s H E hr tk
    refine ⟨xs, t, fun v0 o0 os K0 Z0 ⟨ts, e, h⟩ => ?_⟩
    have := q v0 o0 ts K0 Z0 h
    subst e
    unfold slots endI at this
    rw [List.map_map, List.length_map]
    have e2 : N.length - ts.length - 1 = N.length - 1 - ts.length := by omega
    rw [e2]
    exact this
  refine ⟨F2.mgx, F2.kp, ?_⟩
  obtain ⟨fd, b, f⟩ := F2.ok
  exact ⟨fd, b, ⟨fun vs H Q E h => f.len vs H Q E (spI_frz h), fun A outer s H args us vs Q E r e0 bt rv h => f.run A outer s H args us vs Q E r e0 bt rv (spI_frz h)⟩⟩
end
end TL

namespace TL
open PySem PySem.Spec PyProof.Rows L2
section
variable {a b : XE} {ρ : R} {K : O → R → Prop} {KB : Bool → R → Prop} {Z : ZC} {i j : Int} {Q : O → Prop} {QB : Bool → Prop} {s u : Str} {xs ys ts : List T} {t x : T}
theorem ev_x2 (g : T → T → (O → Prop) → Prop) : x2 g a b ρ K Z = a ρ (fun oa ρ1 => b ρ1 (fun ob ρ2 => g oa.t ob.t fun o => K o ρ2) Z) Z := rfl
theorem ev_x2T (g : T → T → (Bool → Prop) → Prop) : x2T g a b ρ KB Z = a ρ (fun oa ρ1 => b ρ1 (fun ob ρ2 => g oa.t ob.t fun o => KB o ρ2) Z) Z := rfl
@[simp] theorem ev_gB (g : T → T → (Bool → Prop) → Prop) : gB g x t Q = g x t fun b => Q (.sh (.bl b)) := rfl
@[simp] theorem ev_un1 (f : T → (O → Prop) → Prop) : un1 f [t] Q = f t Q := rfl
@[simp] theorem ev_un2 (f : T → T → (O → Prop) → Prop) : un2 f [x, t] Q = f x t Q := rfl
@[simp] theorem ot_sh : O.t (.sh t) = t := rfl
@[simp] theorem ot_lst (os : List O) : O.t (.lst os) = .lst (O.ts os) := rfl
@[simp] theorem ot_io (v : V) (o : O) : O.t (.io v o) = o.t := rfl
@[simp] theorem ots_nil : O.ts [] = [] := rfl
@[simp] theorem ots_cons (o : O) (os : List O) : O.ts (o :: os) = o.t :: O.ts os := rfl
@[simp] theorem ots_sh : O.ts (xs.map .sh) = xs := by rw [O.ts_map, List.map_map]; exact (List.map_congr_left fun a _ => rfl).trans (List.map_id xs)
@[simp] theorem ots_app (os ps : List O) : O.ts (os ++ ps) = O.ts os ++ O.ts ps := by rw [O.ts_map, O.ts_map, O.ts_map, List.map_append]
@[simp] theorem ou_lst (os : List O) : O.un (.lst os) = .lst os := rfl
@[simp] theorem ou_io (v : V) (o : O) : O.un (.io v o) = o := rfl
@[simp] theorem ore_lst (os : List O) (o : O) : O.re (.lst os) o = o := rfl
@[simp] theorem ore_io (v : V) (o o' : O) : O.re (.io v o) o' = .io v o' := rfl
/-! operators -/
theorem add_ii : addT (.int i) (.int j) Q = Q (.sh (.int (i + j))) := rfl
theorem add_ss : addT (.str s) (.str u) Q = (s.length + u.length ≤ sizeLine ∧ Q (.sh (.str (s ++ u)))) := rfl
theorem add_ll : addT (.lst xs) (.lst ys) Q = (xs.length + ys.length ≤ sizeLine ∧ Q (.lst ((xs ++ ys).map .sh))) := rfl
theorem add_tt : addT (.tup xs) (.tup ys) Q = (xs.length + ys.length ≤ sizeLine ∧ Q (.sh (.tup (xs ++ ys)))) := rfl
theorem sub_ii : subT (.int i) (.int j) Q = Q (.sh (.int (i - j))) := rfl
theorem mul_ii : mulT (.int i) (.int j) Q = ((CMul i j ∨ CMulW i j) ∧ Q (.sh (.int (i * j)))) := rfl
theorem mul_li : mulT (.lst xs) (.int i) Q = (-(2 ^ 63) ≤ i ∧ i < 2 ^ 63 ∧ xs.length * i.toNat ≤ sizeLine ∧ Q (.lst ((List.replicate i.toNat xs).flatten.map .sh))) := rfl
theorem div_ii : divT (.int i) (.int j) Q = (CDivW i j ∧ Q (.sh (.int (i / j)))) := rfl
theorem mod_ii : modT (.int i) (.int j) Q = (0 < j ∧ Q (.sh (.int (i % j)))) := rfl
theorem pow_ii : powT (.int i) (.int j) Q = ((0 ≤ j ∧ (Builtin.Int.intBits i : Int) * j ≤ 2 ^ 27) ∧ Q (.sh (.int (i ^ j.toNat)))) := rfl
theorem cmp_ii (f : Int → Int → Bool) : intT f (.int i) (.int j) QB = QB (f i j) := rfl
/-! data -/
@[simp] theorem d_bl (k : Bool) : T.d (.bl k) = .bool k := rfl
@[simp] theorem d_int : T.d (.int i) = .int i := rfl
@[simp] theorem d_str : T.d (.str s) = .str s := rfl
@[simp] theorem d_non : T.d .non = .none := rfl
@[simp] theorem d_tup : T.d (.tup xs) = .tuple (T.ds xs) := rfl
@[simp] theorem d_lst : T.d (.lst xs) = .list (T.ds xs) := rfl
@[simp] theorem ds_nil : T.ds [] = [] := rfl
@[simp] theorem ds_cons : T.ds (x :: xs) = x.d :: T.ds xs := rfl
@[simp] theorem isD_bl (k : Bool) : T.isD (.bl k) = true := rfl
@[simp] theorem isD_int : T.isD (.int i) = true := rfl
@[simp] theorem isD_non : T.isD .non = true := rfl
@[simp] theorem isD_str : T.isD (.str s) = PyData.strOk s := rfl
@[simp] theorem isD_tup : T.isD (.tup xs) = T.isDs xs := rfl
@[simp] theorem isD_lst : T.isD (.lst xs) = T.isDs xs := rfl
@[simp] theorem isDs_nil : T.isDs [] = true := rfl
@[simp] theorem isDs_cons : T.isDs (x :: xs) = (x.isD && T.isDs xs) := rfl
@[simp] theorem fl_bl (k : Bool) : T.flat (.bl k) = true := rfl
@[simp] theorem fl_int : T.flat (.int i) = true := rfl
@[simp] theorem fl_non : T.flat .non = true := rfl
@[simp] theorem fl_str : T.flat (.str s) = true := rfl
@[simp] theorem dep_bl (k : Bool) : PyData.depth (.bool k) = 0 := by unfold PyData.depth; rfl
@[simp] theorem dep_int : PyData.depth (.int i) = 0 := by unfold PyData.depth; rfl
@[simp] theorem dep_str : PyData.depth (.str s) = 0 := by unfold PyData.depth; rfl
@[simp] theorem dep_non : PyData.depth .none = 0 := by unfold PyData.depth; rfl
@[simp] theorem dep_tup (l : List PyData) : PyData.depth (.tuple l) = PyData.depthAll l + 1 := by unfold PyData.depth; rfl
@[simp] theorem dep_lst (l : List PyData) : PyData.depth (.list l) = PyData.depthAll l + 1 := by unfold PyData.depth; rfl
@[simp] theorem depA_nil : PyData.depthAll [] = 0 := by unfold PyData.depthAll; rfl
@[simp] theorem depA_cons (d : PyData) (l : List PyData) : PyData.depthAll (d :: l) = max d.depth (PyData.depthAll l) := by rw [PyData.depthAll]
@[simp] theorem eqv_ss : PyData.eqv (.str s) (.str u) = decide (s = u) := by unfold PyData.eqv; exact (Bool.beq_eq_decide_eq s u)
@[simp] theorem eqv_ii : PyData.eqv (.int i) (.int j) = decide (i = j) := by unfold PyData.eqv; exact (Bool.beq_eq_decide_eq i j)
@[simp] theorem eqv_tt (l m : List PyData) : PyData.eqv (.tuple l) (.tuple m) = PyData.eqvAll l m := by rw [PyData.eqv]
@[simp] theorem eqv_ll (l m : List PyData) : PyData.eqv (.list l) (.list m) = PyData.eqvAll l m := by rw [PyData.eqv]
@[simp] theorem eqv_si : PyData.eqv (.str s) (.int j) = false := by unfold PyData.eqv; rfl
@[simp] theorem eqv_is : PyData.eqv (.int i) (.str s) = false := by unfold PyData.eqv; rfl
@[simp] theorem eqv_st (l : List PyData) : PyData.eqv (.str s) (.tuple l) = false := by unfold PyData.eqv; rfl
@[simp] theorem eqv_ts (l : List PyData) : PyData.eqv (.tuple l) (.str s) = false := by unfold PyData.eqv; rfl
@[simp] theorem eqvA_nn : PyData.eqvAll [] [] = true := by unfold PyData.eqvAll; rfl
@[simp] theorem eqvA_nc (d : PyData) (l : List PyData) : PyData.eqvAll [] (d :: l) = false := by unfold PyData.eqvAll; rfl
@[simp] theorem eqvA_cn (d : PyData) (l : List PyData) : PyData.eqvAll (d :: l) [] = false := by unfold PyData.eqvAll; rfl
@[simp] theorem eqvA_cc (d e : PyData) (l m : List PyData) : PyData.eqvAll (d :: l) (e :: m) = (PyData.eqv d e && PyData.eqvAll l m) := by rw [PyData.eqvAll]
theorem ev_eqT : eqT x t QB = ((x.isD = true ∧ t.isD = true ∧ x.d.depth ≤ 64 ∧ t.d.depth ≤ 64) ∧ QB (PyData.eqv x.d t.d)) := rfl
theorem ev_neT : neT x t QB = ((x.isD = true ∧ t.isD = true ∧ x.d.depth ≤ 64 ∧ t.d.depth ≤ 64) ∧ QB (!PyData.eqv x.d t.d)) := rfl
theorem in_tup : inT x (.tup ts) QB = ((x.isD = true ∧ x.flat = true ∧ ts.all (fun z => z.isD && z.flat) = true) ∧ QB (ts.any fun z => PyData.eqv z.d x.d)) := rfl
theorem in_lst : inT x (.lst ts) QB = ((x.isD = true ∧ T.isDs ts = true ∧ x.d.depth ≤ 64 ∧ PyData.depthAll (T.ds ts) ≤ 63) ∧ QB (ts.any fun z => PyData.eqv z.d x.d)) := rfl
theorem ev_notInT : notInT x t QB = inT x t fun b => QB (!b) := rfl
theorem is_nn : isNT .non .non QB = QB true := rfl
theorem is_bn (k : Bool) : isNT (.bl k) .non QB = QB false := rfl
theorem is_in : isNT (.int i) .non QB = QB false := rfl
theorem is_sn : isNT (.str s) .non QB = QB false := rfl
theorem is_tn : isNT (.tup xs) .non QB = QB false := rfl
theorem is_ln : isNT (.lst xs) .non QB = QB false := rfl
theorem ev_notNT : notNT x t QB = isNT x t fun b => QB (!b) := rfl
/-! parts -/
theorem ix_tup : ixT (.tup ts) (.int i) Q = (match atI ts i with | some t => Q (.sh t) | none => False) := rfl
theorem ix_lst : ixT (.lst ts) (.int i) Q = (match atI ts i with | some t => Q (.sh t) | none => False) := rfl
theorem ix_ktp : ixT (.ktp ts) (.int i) Q = (match atI ts i with | some t => Q (.sh t) | none => False) := rfl
theorem ixN_nat (n k : Nat) (h : k < n) : ixN n (k : Int) = some k := by
  unfold ixN
  rw [if_pos (by omega), if_pos (by omega)]
  simp
theorem ixN_none (n k : Nat) (h : n ≤ k) : ixN n (k : Int) = none := by
  unfold ixN
  rw [if_pos (by omega), if_neg (by omega)]
@[simp] theorem atI_nat {α : Type} (l : List α) (k : Nat) : atI l (k : Int) = l[k]? := by
  unfold atI
  by_cases h : k < l.length
  · rw [ixN_nat _ _ h]; rfl
  · rw [ixN_none _ _ (by omega), List.getElem?_eq_none (by omega)]; rfl
@[simp] theorem atI_0 {α : Type} (l : List α) : atI l 0 = l[0]? := atI_nat l 0
@[simp] theorem atI_1 {α : Type} (l : List α) : atI l 1 = l[1]? := atI_nat l 1
@[simp] theorem atI_2 {α : Type} (l : List α) : atI l 2 = l[2]? := atI_nat l 2
@[simp] theorem atI_3 {α : Type} (l : List α) : atI l 3 = l[3]? := atI_nat l 3
@[simp] theorem atI_4 {α : Type} (l : List α) : atI l 4 = l[4]? := atI_nat l 4
@[simp] theorem atI_5 {α : Type} (l : List α) : atI l 5 = l[5]? := atI_nat l 5
@[simp] theorem atI_6 {α : Type} (l : List α) : atI l 6 = l[6]? := atI_nat l 6
@[simp] theorem atI_m1 {α : Type} (l : List α) : atI l (-1) = l.getLast? := by
  unfold atI ixN
  rw [if_neg (by decide)]
  cases l with
  | nil => rfl
  | cons a l =>
    rw [if_pos (by simp; omega), List.getLast?_eq_getElem?]
    show (a :: l)[((-1 : Int) + ((a :: l).length : Int)).toNat]? = _
    congr 1
    simp
    omega
theorem sIx_pos (n d k : Nat) : HT.sIx n d (some (k : Int)) = min k n := HT.sIx_nat n d k
theorem cutL_from {α : Type} (l : List α) (k : Nat) : cutL l (some (k : Int)) none = l.drop k := by
  unfold cutL
  rw [sIx_pos, HT.sIx_none, List.take_of_length_le (by rw [List.length_drop]; omega)]
  by_cases h : k ≤ l.length
  · rw [Nat.min_eq_left h]
  · rw [Nat.min_eq_right (by omega), List.drop_eq_nil_of_le (by omega), List.drop_eq_nil_of_le (by omega)]
theorem cutL_to {α : Type} (l : List α) (k : Nat) : cutL l none (some (k : Int)) = l.take k := by
  unfold cutL
  rw [sIx_pos, HT.sIx_none, List.drop_zero, Nat.sub_zero]
  by_cases h : k ≤ l.length
  · rw [Nat.min_eq_left h]
  · rw [Nat.min_eq_right (by omega), List.take_of_length_le (by omega), List.take_of_length_le (by omega)]
theorem cutL_mid {α : Type} (l : List α) (k m : Nat) : cutL l (some (k : Int)) (some (m : Int)) = (l.drop k).take (m - k) := by
  unfold cutL
  rw [sIx_pos, sIx_pos]
  by_cases h : k ≤ l.length
  · rw [Nat.min_eq_left h]
    by_cases h2 : m ≤ l.length
    · rw [Nat.min_eq_left h2]
    · rw [Nat.min_eq_right (by omega), List.take_of_length_le (by simp), List.take_of_length_le (by simp; omega)]
  · rw [Nat.min_eq_right (by omega : l.length ≤ k), List.drop_eq_nil_of_le (Nat.le_refl _), List.drop_eq_nil_of_le (by omega), List.take_nil, List.take_nil]
@[simp] theorem cutL_1 {α : Type} (l : List α) : cutL l (some 1) none = l.drop 1 := cutL_from l 1
@[simp] theorem cutL_2 {α : Type} (l : List α) : cutL l (some 2) none = l.drop 2 := cutL_from l 2
theorem sl_tup (lo hi : Option Int) : sliceT (.tup ts) lo hi Q = Q (.sh (.tup (cutL ts lo hi))) := rfl
theorem sl_lst (lo hi : Option Int) : sliceT (.lst ts) lo hi Q = Q (.lst ((cutL ts lo hi).map .sh)) := rfl
theorem rev_tup : revAT (.tup ts) Q = Q (.sh (.tup ts.reverse)) := rfl
theorem rev_lst : revAT (.lst ts) Q = Q (.lst (ts.reverse.map .sh)) := rfl
theorem len_tup : lenT (.tup ts) Q = Q (.sh (.int ts.length)) := rfl
theorem len_lst : lenT (.lst ts) Q = Q (.sh (.int ts.length)) := rfl
theorem len_str : lenT (.str s) Q = (s.length ≤ sizeLine ∧ Q (.sh (.int s.length))) := rfl
theorem abs_i : absT (.int i) Q = Q (.sh (.int (if i < 0 then -i else i))) := rfl
theorem toInt_i : toIntT (.int i) Q = Q (.sh (.int i)) := rfl
theorem toInt_b (k : Bool) : toIntT (.bl k) Q = Q (.sh (.int (if k then 1 else 0))) := rfl
theorem max_ii : maxT (.int i) (.int j) Q = Q (.sh (.int (if j > i then j else i))) := rfl
theorem min_ii : minT (.int i) (.int j) Q = Q (.sh (.int (if j < i then j else i))) := rfl
theorem list_t : listT (.tup ts) Q = Q (.lst (ts.map .sh)) := rfl
theorem list_l : listT (.lst ts) Q = Q (.lst (ts.map .sh)) := rfl
theorem tuple_l : tupleT (.lst ts) Q = Q (.sh (.tup ts)) := rfl
theorem tuple_t : tupleT (.tup ts) Q = Q (.sh (.tup ts)) := rfl
theorem tru_n : truT .non QB = QB false := rfl
theorem tru_b (k : Bool) : truT (.bl k) QB = QB k := rfl
theorem tru_i : truT (.int i) QB = QB (i != 0) := rfl
theorem tru_t : truT (.tup ts) QB = QB (!ts.isEmpty) := rfl
theorem tru_l : truT (.lst ts) QB = QB (!ts.isEmpty) := rfl
theorem bools_l (f : List Bool → Bool) : boolsT f (.lst ts) Q = (match T.bls ts with | some bs => Q (.sh (.bl (f bs))) | none => False) := rfl
/-! slots -/
@[simp] theorem frzA_nil : frzA [] = [] := rfl
@[simp] theorem frzA_some (o : O) (r : R) : frzA (some o :: r) = some (.sh o.t) :: frzA r := rfl
@[simp] theorem frzA_none (r : R) : frzA (none :: r) = none :: frzA r := rfl
@[simp] theorem ev_slotL (n : Nat) : slotL ρ n = (match ρ[n]? with | some (some c) => (match c.un with | .lst os => some (c, os) | _ => none) | _ => none) := rfl
theorem ev_putL (n : Nat) (c : O) (os : List O) : putL ρ n c os = ρ.set n (some (c.re (.lst os))) := rfl
@[simp] theorem ev_isSL (n : Nat) : isSL ρ n = ((slotL ρ n).isSome = true) := rfl
@[simp] theorem wipe_n : wipeR ρ [] = ρ := rfl
@[simp] theorem wipe_c (n : Nat) (l : List Nat) : wipeR ρ (n :: l) = (wipeR ρ l).set n none := rfl
@[simp] theorem ev_slots (m : Nat) : slots m ts = ts.map (fun t => some (.sh t)) ++ List.replicate (m - ts.length) none := rfl
@[simp] theorem ev_endP_nx (K0 : O → Prop) (Z0 : ZX) : (endP K0 Z0).nx = fun _ => K0 (.sh .non) := rfl
@[simp] theorem ev_endP_rt (K0 : O → Prop) (Z0 : ZX) : (endP K0 Z0).rt = fun o _ => K0 o := rfl
@[simp] theorem ev_endP_ex (K0 : O → Prop) (Z0 : ZX) : (endP K0 Z0).ex = fun C fs ts _ => Z0 C fs ts := rfl
@[simp] theorem ev_endI_nx (v0 : V) (K0 : O → O → Prop) (Z0 : ZX) : (endI v0 K0 Z0).nx = fun ρ => ∃ o', ρ[0]? = some (some (.io v0 o')) ∧ K0 (.sh .non) o' := rfl
@[simp] theorem ev_endI_rt (v0 : V) (K0 : O → O → Prop) (Z0 : ZX) : (endI v0 K0 Z0).rt = fun o ρ => ∃ o', ρ[0]? = some (some (.io v0 o')) ∧ K0 o o' := rfl
@[simp] theorem ev_endI_ex (v0 : V) (K0 : O → O → Prop) (Z0 : ZX) : (endI v0 K0 Z0).ex = fun C fs ts _ => Z0 C fs ts := rfl
@[simp] theorem ev_pf (g : GT) (os : List O) (K0 : O → Prop) (Z0 : ZX) : GT.pf g os K0 Z0 = g (O.ts os) K0 Z0 := rfl
@[simp] theorem ev_ipf (g : GI) (o : O) (os : List O) (K0 : O → O → Prop) (Z0 : ZX) : GI.pf g o os K0 Z0 = g o (O.ts os) K0 Z0 := rfl
@[simp] theorem ev_suiteD (D : ED) (n : Nat) : suiteD D n = { nx := fun ρ => D.nx (ρ.set n none), rt := D.rt, bk := fun ρ => D.bk (ρ.set n none), ct := fun ρ => D.ct (ρ.set n none) } := rfl
@[simp] theorem size_val : sizeLine = 16777216 := rfl
theorem size_le (n : Nat) (h : n ≤ 1000000) : n ≤ sizeLine := Nat.le_trans h (by decide)
end
/-! texts -/
theorem ofString_inj {a b : String} (h : Str.ofString a = Str.ofString b) : a = b := by
  rw [Str.ofString_eq_toList, Str.ofString_eq_toList] at h
  have h1 := congrArg (fun z => z.cps.toList) h
  simp only [List.toList_toArray] at h1
  have h2 : ∀ l m : List Char, l.map Char.toNat = m.map Char.toNat → l = m := fun l => by
    induction l with
    | nil => intro m q; cases m with
      | nil => rfl
      | cons _ _ => simp at q
    | cons c l ih => intro m q; cases m with
      | nil => simp at q
      | cons d m =>
        simp only [List.map_cons, List.cons.injEq] at q
        rw [Char.toNat_inj.mp q.1, ih m q.2]
  exact String.toList_inj.mp (h2 _ _ h1)
@[simp] theorem ofString_eq (a b : String) : (Str.ofString a = Str.ofString b) = (a = b) := propext ⟨ofString_inj, fun h => by rw [h]⟩
@[simp] theorem strOk_lit (s : String) : PyData.strOk (Str.ofString s) = true := by
  rw [Str.ofString_eq_toList]
  unfold PyData.strOk
  rw [← Array.all_toList, List.toList_toArray, List.all_map, List.all_eq_true]
  intro c _
  have := c.valid
  simp only [Function.comp_apply, decide_eq_true_eq]
  rcases this with h | h
  · exact Nat.lt_trans h (by decide)
  · exact h.2
end TL

/-! a reading run from the outside in: what is still to come stands in a box (an instance's place), which simp does not look into -/
namespace TL
open PySem PySem.Spec PyProof.Rows L2
class Kb (α : Type) where
  k : α
def onR (l : R) [c : Kb (R → Prop)] : Prop := c.k l
def onT (t : T) [c : Kb (T → Prop)] : Prop := c.k t
def optE {α : Type} (o : Option α) [c : Kb (α → Prop)] : Prop := match o with
  | some a => c.k a
  | none => False
def slE (o : Option (Option O)) [c : Kb (O → Prop)] : Prop := match o with
  | some (some x) => c.k x
  | _ => False
def nameE (o : O) (ρ : R) (i : Nat) [c : Kb (O → R → Prop)] : Prop := match o with
  | .sh t => c.k (.sh t) ρ
  | o => c.k (.sh o.t) (ρ.set i (some (.sh o.t)))
def lstE (o : O) [c : Kb (List O → Prop)] : Prop := match o.un with
  | .lst os => c.k os
  | _ => False
def oneE (os : List O) [c : Kb (O → Prop)] : Prop := match os with
  | [o] => c.k o
  | _ => False
def shE (o : O) [c : Kb (T → Prop)] : Prop := match o with
  | .sh t => c.k t
  | _ => False
def consE (os : List O) [c : Kb (O → List O → Prop)] : Prop := match os with
  | o :: r => c.k o r
  | [] => False
def tupE (t : T) [c : Kb (List T → Prop)] : Prop := match t with
  | .tup ts => c.k ts
  | _ => False
def lsE (t : T) [c : Kb (List T → Prop)] : Prop := match t with
  | .lst ts => c.k ts
  | _ => False
def intE (t : T) [c : Kb (Int → Prop)] : Prop := match t with
  | .int i => c.k i
  | _ => False
def strE (t : T) [c : Kb (Str → Prop)] : Prop := match t with
  | .str i => c.k i
  | _ => False
def brE (b : Bool) [c : Kb (Prop × Prop)] : Prop := if b = true then c.k.1 else c.k.2
def op2E (g : T → T → (O → Prop) → Prop) (x t : T) [c : Kb (O → Prop)] : Prop := g x t c.k
def op2B (g : T → T → (Bool → Prop) → Prop) (x t : T) [c : Kb (Bool → Prop)] : Prop := g x t c.k
def opLE (g : List T → (O → Prop) → Prop) (ts : List T) [c : Kb (O → Prop)] : Prop := g ts c.k
def op1E (g : T → (O → Prop) → Prop) (x : T) [c : Kb (O → Prop)] : Prop := g x c.k
def truE (x : T) [c : Kb (Bool → Prop)] : Prop := truT x c.k
def sliE (x : T) (lo hi : Option Int) [c : Kb (O → Prop)] : Prop := sliceT x lo hi c.k
def callE (g : GT) (ts : List T) [c : Kb (O → Prop)] [z : Kb ZX] : Prop := g ts c.k z.k
def callIE (g : GI) (o : O) (ts : List T) [c : Kb (O → O → Prop)] [z : Kb ZX] : Prop := g o ts c.k z.k
def whE (p : XT) (s : XS) (ρ : R) [c : Kb ED] : Prop := xWhile p s c.k ρ
def foE (it : XI) (g : XG) (s : XS) (ρ : R) [c : Kb ED] : Prop := xFor it g s c.k ρ
def lcE (it : XI) (g : XG) (p : XT) (x : XE) (own : List Nat) (ρ : R) [c : Kb (O → R → Prop)] [z : Kb ZC] : Prop := xLc it g p x own ρ c.k z.k
section
variable {l ρ : R} {t x : T} {os : List O} {o : O} {i : Nat}
@[simp] theorem onR_e {f : R → Prop} : onR l (c := ⟨f⟩) = f l := rfl
@[simp] theorem onT_e {f : T → Prop} : onT t (c := ⟨f⟩) = f t := rfl
@[simp] theorem optE_s {α : Type} {a : α} {f : α → Prop} : optE (some a) (c := ⟨f⟩) = f a := rfl
@[simp] theorem optE_n {α : Type} {f : α → Prop} : optE none (c := ⟨f⟩) = False := rfl
@[simp] theorem slE_s {f : O → Prop} : slE (some (some o)) (c := ⟨f⟩) = f o := rfl
@[simp] theorem nameE_sh {f : O → R → Prop} : nameE (.sh t) ρ i (c := ⟨f⟩) = f (.sh t) ρ := rfl
@[simp] theorem nameE_lst {f : O → R → Prop} : nameE (.lst os) ρ i (c := ⟨f⟩) = onR (ρ.set i (some (.sh (.lst (O.ts os))))) (c := ⟨f (.sh (.lst (O.ts os)))⟩) := rfl
@[simp] theorem nameE_io {v : V} {f : O → R → Prop} : nameE (.io v (.lst os)) ρ i (c := ⟨f⟩) = onR (ρ.set i (some (.sh (.lst (O.ts os))))) (c := ⟨f (.sh (.lst (O.ts os)))⟩) := rfl
@[simp] theorem lstE_lst {f : List O → Prop} : lstE (.lst os) (c := ⟨f⟩) = f os := rfl
@[simp] theorem lstE_io {v : V} {f : List O → Prop} : lstE (.io v (.lst os)) (c := ⟨f⟩) = f os := rfl
@[simp] theorem oneE_e {f : O → Prop} : oneE [o] (c := ⟨f⟩) = f o := rfl
@[simp] theorem shE_e {f : T → Prop} : shE (.sh t) (c := ⟨f⟩) = f t := rfl
@[simp] theorem consE_e {f : O → List O → Prop} : consE (o :: os) (c := ⟨f⟩) = f o os := rfl
@[simp] theorem tupE_e {ts : List T} {f : List T → Prop} : tupE (.tup ts) (c := ⟨f⟩) = f ts := rfl
@[simp] theorem lsE_e {ts : List T} {f : List T → Prop} : lsE (.lst ts) (c := ⟨f⟩) = f ts := rfl
@[simp] theorem intE_e {j : Int} {f : Int → Prop} : intE (.int j) (c := ⟨f⟩) = f j := rfl
@[simp] theorem strE_e {j : Str} {f : Str → Prop} : strE (.str j) (c := ⟨f⟩) = f j := rfl
@[simp] theorem brE_t {p q : Prop} : brE true (c := ⟨(p, q)⟩) = p := if_pos rfl
@[simp] theorem brE_f {p q : Prop} : brE false (c := ⟨(p, q)⟩) = q := if_neg (by decide)
end
section
variable {i j : Int} {Q : O → Prop} {QB : Bool → Prop} {s u : Str} {xs ys ts : List T} {t x : T}
@[simp] theorem v_add_ii : op2E addT (.int i) (.int j) (c := ⟨Q⟩) = Q (.sh (.int (i + j))) := rfl
@[simp] theorem v_add_ss : op2E addT (.str s) (.str u) (c := ⟨Q⟩) = (s.length + u.length ≤ sizeLine ∧ Q (.sh (.str (s ++ u)))) := rfl
@[simp] theorem v_add_ll : op2E addT (.lst xs) (.lst ys) (c := ⟨Q⟩) = (xs.length + ys.length ≤ sizeLine ∧ Q (.lst ((xs ++ ys).map .sh))) := rfl
@[simp] theorem v_add_tt : op2E addT (.tup xs) (.tup ys) (c := ⟨Q⟩) = (xs.length + ys.length ≤ sizeLine ∧ Q (.sh (.tup (xs ++ ys)))) := rfl
@[simp] theorem v_sub_ii : op2E subT (.int i) (.int j) (c := ⟨Q⟩) = Q (.sh (.int (i - j))) := rfl
@[simp] theorem v_mul_ii : op2E mulT (.int i) (.int j) (c := ⟨Q⟩) = ((CMul i j ∨ CMulW i j) ∧ Q (.sh (.int (i * j)))) := rfl
@[simp] theorem v_mul_li : op2E mulT (.lst xs) (.int i) (c := ⟨Q⟩) = (-(2 ^ 63) ≤ i ∧ i < 2 ^ 63 ∧ xs.length * i.toNat ≤ sizeLine ∧ Q (.lst ((List.replicate i.toNat xs).flatten.map .sh))) := rfl
@[simp] theorem v_div_ii : op2E divT (.int i) (.int j) (c := ⟨Q⟩) = (CDivW i j ∧ Q (.sh (.int (i / j)))) := rfl
@[simp] theorem v_mod_ii : op2E modT (.int i) (.int j) (c := ⟨Q⟩) = (0 < j ∧ Q (.sh (.int (i % j)))) := rfl
@[simp] theorem v_pow_ii : op2E powT (.int i) (.int j) (c := ⟨Q⟩) = ((0 ≤ j ∧ (Builtin.Int.intBits i : Int) * j ≤ 2 ^ 27) ∧ Q (.sh (.int (i ^ j.toNat)))) := rfl
@[simp] theorem v_in_tup : op2B inT x (.tup ts) (c := ⟨QB⟩) = ((x.isD = true ∧ x.flat = true ∧ ts.all (fun z => z.isD && z.flat) = true) ∧ QB (ts.any fun z => PyData.eqv z.d x.d)) := rfl
@[simp] theorem v_in_lst : op2B inT x (.lst ts) (c := ⟨QB⟩) = ((x.isD = true ∧ T.isDs ts = true ∧ x.d.depth ≤ 64 ∧ PyData.depthAll (T.ds ts) ≤ 63) ∧ QB (ts.any fun z => PyData.eqv z.d x.d)) := rfl
@[simp] theorem v_is_nn : op2B isNT .non .non (c := ⟨QB⟩) = QB true := rfl
@[simp] theorem v_is_bn (k : Bool) : op2B isNT (.bl k) .non (c := ⟨QB⟩) = QB false := rfl
@[simp] theorem v_is_in : op2B isNT (.int i) .non (c := ⟨QB⟩) = QB false := rfl
@[simp] theorem v_is_sn : op2B isNT (.str s) .non (c := ⟨QB⟩) = QB false := rfl
@[simp] theorem v_is_tn : op2B isNT (.tup xs) .non (c := ⟨QB⟩) = QB false := rfl
@[simp] theorem v_is_ln : op2B isNT (.lst xs) .non (c := ⟨QB⟩) = QB false := rfl
@[simp] theorem v_ix_tup : op2E ixT (.tup ts) (.int i) (c := ⟨Q⟩) = optE (atI ts i) (c := ⟨fun t => Q (.sh t)⟩) := by
  unfold op2E optE
  dsimp only [ixT]
  cases atI ts i <;> rfl
@[simp] theorem v_ix_lst : op2E ixT (.lst ts) (.int i) (c := ⟨Q⟩) = optE (atI ts i) (c := ⟨fun t => Q (.sh t)⟩) := by
  unfold op2E optE
  dsimp only [ixT]
  cases atI ts i <;> rfl
@[simp] theorem v_ix_ktp : op2E ixT (.ktp ts) (.int i) (c := ⟨Q⟩) = optE (atI ts i) (c := ⟨fun t => Q (.sh t)⟩) := by
  unfold op2E optE
  dsimp only [ixT]
  cases atI ts i <;> rfl
@[simp] theorem v_sl_tup (lo hi : Option Int) : sliE (.tup ts) lo hi (c := ⟨Q⟩) = Q (.sh (.tup (cutL ts lo hi))) := rfl
@[simp] theorem v_sl_lst (lo hi : Option Int) : sliE (.lst ts) lo hi (c := ⟨Q⟩) = Q (.lst ((cutL ts lo hi).map .sh)) := rfl
@[simp] theorem v_rev_tup : op1E revAT (.tup ts) (c := ⟨Q⟩) = Q (.sh (.tup ts.reverse)) := rfl
@[simp] theorem v_rev_lst : op1E revAT (.lst ts) (c := ⟨Q⟩) = Q (.lst (ts.reverse.map .sh)) := rfl
@[simp] theorem v_len_tup : op1E lenT (.tup ts) (c := ⟨Q⟩) = Q (.sh (.int ts.length)) := rfl
@[simp] theorem v_len_lst : op1E lenT (.lst ts) (c := ⟨Q⟩) = Q (.sh (.int ts.length)) := rfl
@[simp] theorem v_len_str : op1E lenT (.str s) (c := ⟨Q⟩) = (s.length ≤ sizeLine ∧ Q (.sh (.int s.length))) := rfl
@[simp] theorem v_abs_i : op1E absT (.int i) (c := ⟨Q⟩) = Q (.sh (.int (if i < 0 then -i else i))) := rfl
@[simp] theorem v_toInt_i : op1E toIntT (.int i) (c := ⟨Q⟩) = Q (.sh (.int i)) := rfl
@[simp] theorem v_toInt_b (k : Bool) : op1E toIntT (.bl k) (c := ⟨Q⟩) = Q (.sh (.int (if k then 1 else 0))) := rfl
@[simp] theorem v_max_ii : op2E maxT (.int i) (.int j) (c := ⟨Q⟩) = Q (.sh (.int (if j > i then j else i))) := rfl
@[simp] theorem v_min_ii : op2E minT (.int i) (.int j) (c := ⟨Q⟩) = Q (.sh (.int (if j < i then j else i))) := rfl
@[simp] theorem v_list_t : op1E listT (.tup ts) (c := ⟨Q⟩) = Q (.lst (ts.map .sh)) := rfl
@[simp] theorem v_list_l : op1E listT (.lst ts) (c := ⟨Q⟩) = Q (.lst (ts.map .sh)) := rfl
@[simp] theorem v_tuple_l : op1E tupleT (.lst ts) (c := ⟨Q⟩) = Q (.sh (.tup ts)) := rfl
@[simp] theorem v_tuple_t : op1E tupleT (.tup ts) (c := ⟨Q⟩) = Q (.sh (.tup ts)) := rfl
@[simp] theorem v_tru_n : truE .non (c := ⟨QB⟩) = QB false := rfl
@[simp] theorem v_tru_b (k : Bool) : truE (.bl k) (c := ⟨QB⟩) = QB k := rfl
@[simp] theorem v_tru_i : truE (.int i) (c := ⟨QB⟩) = QB (i != 0) := rfl
@[simp] theorem v_tru_t : truE (.tup ts) (c := ⟨QB⟩) = QB (!ts.isEmpty) := rfl
@[simp] theorem v_tru_l : truE (.lst ts) (c := ⟨QB⟩) = QB (!ts.isEmpty) := rfl
@[simp] theorem v_cmp (f : Int → Int → Bool) : op2B (intT f) (.int i) (.int j) (c := ⟨QB⟩) = QB (f i j) := rfl
@[simp] theorem v_eqT : op2B eqT x t (c := ⟨QB⟩) = ((x.isD = true ∧ t.isD = true ∧ x.d.depth ≤ 64 ∧ t.d.depth ≤ 64) ∧ QB (PyData.eqv x.d t.d)) := rfl
@[simp] theorem v_neT : op2B neT x t (c := ⟨QB⟩) = ((x.isD = true ∧ t.isD = true ∧ x.d.depth ≤ 64 ∧ t.d.depth ≤ 64) ∧ QB (!PyData.eqv x.d t.d)) := rfl
@[simp] theorem v_notNT : op2B notNT x t (c := ⟨QB⟩) = op2B isNT x t (c := ⟨fun b => QB (!b)⟩) := rfl
@[simp] theorem v_notInT : op2B notInT x t (c := ⟨QB⟩) = op2B inT x t (c := ⟨fun b => QB (!b)⟩) := rfl
@[simp] theorem v_gB (g : T → T → (Bool → Prop) → Prop) : op2E (gB g) x t (c := ⟨Q⟩) = op2B g x t (c := ⟨fun b => Q (.sh (.bl b))⟩) := rfl
@[simp] theorem v_un1 (f : T → (O → Prop) → Prop) : opLE (un1 f) [t] (c := ⟨Q⟩) = op1E f t (c := ⟨Q⟩) := rfl
@[simp] theorem v_un2 (f : T → T → (O → Prop) → Prop) : opLE (un2 f) [x, t] (c := ⟨Q⟩) = op2E f x t (c := ⟨Q⟩) := rfl
@[simp] theorem v_bools (f : List Bool → Bool) : op1E (boolsT f) (.lst ts) (c := ⟨Q⟩) = optE (T.bls ts) (c := ⟨fun bs => Q (.sh (.bl (f bs)))⟩) := by
  unfold op1E optE
  dsimp only [boolsT]
  cases T.bls ts <;> rfl
end
/-! the readings -/
section
variable {ρ : R} {K : O → R → Prop} {KB : Bool → R → Prop} {KA : List O → R → Prop} {KO : Option Int → R → Prop} {KI : List T → R → Prop} {Z : ZC} {a b c x : XE} {y : XA} {s u : XS} {D : ED} {p q : XT} {l h : XO} {g : XG} {gs : XGs} {o : O} {os : List O} {kr : R → Prop} {i j n : Nat}
@[simp ↓] theorem w_x2 (g : T → T → (O → Prop) → Prop) : x2 g a b ρ K Z = a ρ (fun oa ρ1 => b ρ1 (fun ob ρ2 => op2E g oa.t ob.t (c := ⟨fun o => K o ρ2⟩)) Z) Z := rfl
@[simp ↓] theorem w_x2T (g : T → T → (Bool → Prop) → Prop) : x2T g a b ρ KB Z = a ρ (fun oa ρ1 => b ρ1 (fun ob ρ2 => op2B g oa.t ob.t (c := ⟨fun o => KB o ρ2⟩)) Z) Z := rfl
@[simp ↓] theorem w_xName : xName i ρ K Z = slE ρ[i]? (c := ⟨fun o => nameE o ρ i (c := ⟨K⟩)⟩) := by
  unfold xName slE nameE
  cases ρ[i]? with
  | none => rfl
  | some r => cases r with
    | none => rfl
    | some o => cases o <;> rfl
@[simp ↓] theorem w_xMov : xMov i ρ K Z = slE ρ[i]? (c := ⟨fun o => onR (ρ.set i none) (c := ⟨K o⟩)⟩) := by
  unfold xMov slE onR
  cases ρ[i]? with
  | none => rfl
  | some r => cases r <;> rfl
@[simp ↓] theorem w_xC (t : T) : xC t ρ K Z = K (.sh t) ρ := rfl
@[simp ↓] theorem w_xNil : xNil ρ KA Z = KA [] ρ := rfl
@[simp ↓] theorem w_xCons : xCons x y ρ KA Z = x ρ (fun o ρ1 => y ρ1 (fun os ρ2 => KA (o :: os) ρ2) Z) Z := rfl
@[simp ↓] theorem w_xLst : xLst y ρ K Z = y ρ (fun os ρ' => os.length ≤ sizeLine ∧ K (.lst os) ρ') Z := rfl
@[simp ↓] theorem w_xTup : xTup y ρ K Z = y ρ (fun os ρ' => os.length ≤ sizeLine ∧ onT (.tup (O.ts os)) (c := ⟨fun t => K (.sh t) ρ'⟩)) Z := rfl
@[simp ↓] theorem w_xB (g : List T → (O → Prop) → Prop) : xB g y ρ K Z = y ρ (fun os ρ' => opLE g (O.ts os) (c := ⟨fun o => K o ρ'⟩)) Z := rfl
@[simp ↓] theorem w_xTru : xTru x ρ KB Z = x ρ (fun o ρ' => truE o.t (c := ⟨fun b => KB b ρ'⟩)) Z := rfl
@[simp ↓] theorem w_xAnd : xAnd p q ρ KB Z = p ρ (fun c ρ1 => brE c (c := ⟨(q ρ1 KB Z, KB false ρ1)⟩)) Z := rfl
@[simp ↓] theorem w_xOr : xOr p q ρ KB Z = p ρ (fun c ρ1 => brE c (c := ⟨(KB true ρ1, q ρ1 KB Z)⟩)) Z := rfl
@[simp ↓] theorem w_xNot : xNot p ρ KB Z = p ρ (fun c ρ1 => KB (!c) ρ1) Z := rfl
@[simp ↓] theorem w_xBorT : xBorT p ρ KB Z = onR (frzA ρ) (c := ⟨fun r => p r (fun b _ => KB b ρ) fun C fs ts _ => False⟩) := rfl
@[simp ↓] theorem w_xBor : xBor x ρ K Z = onR (frzA ρ) (c := ⟨fun r => x r (fun o _ => o.t.flat = true ∧ K (.sh o.t) ρ) fun C fs ts _ => False⟩) := rfl
@[simp ↓] theorem w_xIf : xIf p a b ρ K Z = p ρ (fun c ρ1 => brE c (c := ⟨(a ρ1 K Z, b ρ1 K Z)⟩)) Z := rfl
@[simp ↓] theorem w_xOrV : xOrV a b ρ K Z = a ρ (fun o ρ1 => truE o.t (c := ⟨fun c => brE c (c := ⟨(K o ρ1, b ρ1 K Z)⟩)⟩)) Z := rfl
@[simp ↓] theorem w_xAndV : xAndV a b ρ K Z = a ρ (fun o ρ1 => truE o.t (c := ⟨fun c => brE c (c := ⟨(b ρ1 K Z, K o ρ1)⟩)⟩)) Z := rfl
@[simp ↓] theorem w_xNotV : xNotV a ρ K Z = a ρ (fun o ρ1 => truE o.t (c := ⟨fun c => K (.sh (.bl (!c))) ρ1⟩)) Z := rfl
@[simp ↓] theorem w_xNeg : xNeg a ρ K Z = a ρ (fun o ρ1 => intE o.t (c := ⟨fun i => K (.sh (.int (-i))) ρ1⟩)) Z := rfl
@[simp ↓] theorem w_xNoP : xNoP ρ KO Z = KO none ρ := rfl
@[simp ↓] theorem w_xPart : xPart x ρ KO Z = x ρ (fun o ρ1 => intE o.t (c := ⟨fun i => KO (some i) ρ1⟩)) Z := rfl
@[simp ↓] theorem w_xSl : xSl x l h ρ K Z = x ρ (fun o ρ1 => l ρ1 (fun lo ρ2 => h ρ2 (fun hi ρ3 => sliE o.t lo hi (c := ⟨fun r => K r ρ3⟩)) Z) Z) Z := rfl
@[simp ↓] theorem w_xRevA : xRevA x ρ K Z = x ρ (fun o ρ1 => op1E revAT o.t (c := ⟨fun r => K r ρ1⟩)) Z := rfl
@[simp ↓] theorem w_gN : gN i o ρ kr = onR (ρ.set i (some o)) (c := ⟨kr⟩) := rfl
@[simp ↓] theorem w_gsNil : gsNil os ρ kr = (os = [] ∧ kr ρ) := rfl
@[simp ↓] theorem w_gsCons : gsCons g gs os ρ kr = consE os (c := ⟨fun o r => g o ρ fun ρ1 => gs r ρ1 kr⟩) := by unfold gsCons consE; cases os <;> rfl
@[simp ↓] theorem w_gT : gT n gs o ρ kr = tupE o.t (c := ⟨fun ts => ts.length = n ∧ gs (ts.map .sh) ρ kr⟩) := by unfold gT tupE; cases o.t <;> rfl
@[simp ↓] theorem w_xSeq : xSeq s u D ρ = s { D with nx := u D } ρ := rfl
@[simp ↓] theorem w_xNext : xNext D ρ = D.nx ρ := rfl
@[simp ↓] theorem w_xAsg : xAsg x g D ρ = x ρ (fun o ρ1 => g o ρ1 D.nx) D.ex := rfl
@[simp ↓] theorem w_xExp : xExp x D ρ = x ρ (fun _ ρ1 => D.nx ρ1) D.ex := rfl
@[simp ↓] theorem w_xRet : xRet x D ρ = x ρ D.rt D.ex := rfl
@[simp ↓] theorem w_xRetN : xRetN D ρ = D.rt (.sh .non) ρ := rfl
@[simp ↓] theorem w_xIfS : xIfS p s u D ρ = p ρ (fun b ρ1 => brE b (c := ⟨(s D ρ1, u D ρ1)⟩)) D.ex := rfl
@[simp ↓] theorem w_xYes : xYes ρ KB Z = KB true ρ := rfl
@[simp ↓] theorem w_xApp : xApp j y ρ K Z = (isSL ρ j ∧ y ρ (fun as ρ1 => slE ρ1[j]? (c := ⟨fun c => lstE c (c := ⟨fun os => oneE as (c := ⟨fun o => os.length < sizeLine ∧ onR (ρ1.set j (some (c.re (.lst (os ++ [o]))))) (c := ⟨K (.sh .non)⟩)⟩)⟩)⟩)) Z) := by
  unfold xApp slotL slE lstE oneE putL onR
  congr 1
  congr 1
  funext as ρ1
  cases ρ1[j]? with
  | none => rfl
  | some r => cases r with
    | none => rfl
    | some c =>
      dsimp only
      cases c.un <;> first
        | rfl
        | (cases as with
          | nil => rfl
          | cons o r => cases r <;> rfl)
@[simp ↓] theorem w_xExt : xExt j y ρ K Z = (isSL ρ j ∧ y ρ (fun as ρ1 => slE ρ1[j]? (c := ⟨fun c => lstE c (c := ⟨fun os => oneE as (c := ⟨fun o => lsE o.t (c := ⟨fun ts => os.length + ts.length ≤ sizeLine ∧ onR (ρ1.set j (some (c.re (.lst (os ++ ts.map .sh))))) (c := ⟨K (.sh .non)⟩)⟩)⟩)⟩)⟩)) Z) := by
  unfold xExt slotL slE lstE oneE putL onR lsE
  congr 1
  congr 1
  funext as ρ1
  cases ρ1[j]? with
  | none => rfl
  | some r => cases r with
    | none => rfl
    | some c =>
      dsimp only
      cases c.un <;> first
        | rfl
        | (cases as with
          | nil => rfl
          | cons o r => cases r with
            | nil =>
              dsimp only [O.ts]
              cases o.t <;> rfl
            | cons b r =>
              dsimp only [O.ts]
              cases o.t <;> rfl)
@[simp ↓] theorem w_xPop : xPop j ρ K Z = slE ρ[j]? (c := ⟨fun c => lstE c (c := ⟨fun os => optE os.getLast? (c := ⟨fun o => onR (ρ.set j (some (c.re (.lst os.dropLast)))) (c := ⟨K o⟩)⟩)⟩)⟩) := by
  unfold xPop slotL slE lstE optE putL onR
  cases ρ[j]? with
  | none => rfl
  | some r => cases r with
    | none => rfl
    | some c =>
      dsimp only
      cases c.un <;> first
        | rfl
        | (rename_i os
           dsimp only
           cases os.getLast? <;> rfl)
@[simp ↓] theorem w_xIxN : xIxN j x ρ K Z = ((∃ c, ρ[j]? = some (some c)) ∧ x ρ (fun o ρ1 => slE ρ1[j]? (c := ⟨fun c => lstE c (c := ⟨fun os => intE o.t (c := ⟨fun i => optE (atI os i) (c := ⟨fun oi => shE oi (c := ⟨fun t => K (.sh t) ρ1⟩)⟩)⟩)⟩)⟩)) Z) := by
  unfold xIxN slotL slE lstE intE optE shE
  congr 1
  congr 1
  funext o ρ1
  cases ρ1[j]? with
  | none => rfl
  | some r => cases r with
    | none => rfl
    | some c =>
      dsimp only
      cases c.un <;> first
        | rfl
        | (cases o.t <;> first
            | rfl
            | (rename_i os i
               dsimp only
               cases atI os i with
               | none => rfl
               | some oi => cases oi <;> rfl))
@[simp ↓] theorem w_gIxN : gIxN j x o ρ kr = ((∃ c, ρ[j]? = some (some c)) ∧ x ρ (fun oi ρ1 => slE ρ1[j]? (c := ⟨fun c => lstE c (c := ⟨fun os => intE oi.t (c := ⟨fun i => optE (ixN os.length i) (c := ⟨fun k => onR (ρ1.set j (some (c.re (.lst (os.set k o))))) (c := ⟨kr⟩)⟩)⟩)⟩)⟩)) noZ) := by
  unfold gIxN slotL slE lstE intE optE putL onR
  congr 1
  congr 1
  funext oi ρ1
  cases ρ1[j]? with
  | none => rfl
  | some r => cases r with
    | none => rfl
    | some c =>
      dsimp only
      cases c.un <;> first
        | rfl
        | (cases oi.t <;> first
            | rfl
            | (rename_i os i
               dsimp only
               cases ixN os.length i <;> rfl))
@[simp ↓] theorem w_xCall (g : GT) : xCall g.pf y ρ K Z = y ρ (fun os ρ1 => callE g (O.ts os) (c := ⟨fun o => K o ρ1⟩) (z := ⟨fun C fs ts => Z C fs ts ρ1⟩)) Z := rfl
@[simp ↓] theorem w_xCallI (g : GI) : xCallI j g.pf y ρ K Z = ((∃ c, ρ[j]? = some (some c)) ∧ y ρ (fun os ρ1 => slE ρ1[j]? (c := ⟨fun c => callIE g c.un (O.ts os) (c := ⟨fun o c' => onR (ρ1.set j (some (c.re c'))) (c := ⟨K o⟩)⟩) (z := ⟨fun C fs ts => Z C fs ts (ρ1.set j none)⟩)⟩)) Z) := by
  unfold xCallI slE callIE onR
  congr 1
@[simp ↓] theorem w_xTab (kvs : List (Str × T)) : xTab kvs x ρ K Z = x ρ (fun o ρ1 => strE o.t (c := ⟨fun z => optE (kvs.lookup z) (c := ⟨fun t => K (.sh t) ρ1⟩)⟩)) Z := by
  unfold xTab optE strE
  congr 1
  funext o ρ1
  cases o.t <;> first
    | rfl
    | (rename_i z
       dsimp only
       cases kvs.lookup z <;> rfl)
@[simp ↓] theorem w_xChain (g g' : T → T → (Bool → Prop) → Prop) : xChain g g' a b c ρ K Z = a ρ (fun oa ρ1 => b ρ1 (fun ob ρ2 => op2B g oa.t ob.t (c := ⟨fun k => brE k (c := ⟨(c ρ2 (fun oc ρ3 => op2B g' ob.t oc.t (c := ⟨fun k' => K (.sh (.bl k')) ρ3⟩)) Z, K (.sh (.bl false)) ρ2)⟩)⟩)) Z) Z := rfl
@[simp ↓] theorem w_xChainT (g g' : T → T → (Bool → Prop) → Prop) : xChainT g g' a b c ρ KB Z = a ρ (fun oa ρ1 => b ρ1 (fun ob ρ2 => op2B g oa.t ob.t (c := ⟨fun k => brE k (c := ⟨(c ρ2 (fun oc ρ3 => op2B g' ob.t oc.t (c := ⟨fun k' => KB k' ρ3⟩)) Z, KB false ρ2)⟩)⟩)) Z) Z := rfl
@[simp ↓] theorem w_xListRg : xListRg x ρ K Z = x ρ (fun o ρ1 => intE o.t (c := ⟨fun n => -(2 ^ 62) ≤ n ∧ n ≤ 2 ^ 24 ∧ K (.lst ((rangeL 0 n.toNat).map .sh)) ρ1⟩)) Z := by
  unfold xListRg intE
  congr 1
@[simp ↓] theorem w_xRaise (C : Addr) (f : Str) : xRaise C f y D ρ = y ρ (fun os ρ1 => oneE os (c := ⟨fun o => D.ex C [f] [o.t] ρ1⟩)) D.ex := by
  unfold xRaise oneE
  congr 1
  funext os ρ1
  cases os with
  | nil => rfl
  | cons o r => cases r <;> rfl
/-! loops stand still -/
@[simp ↓] theorem w_xWhile : xWhile p s D ρ = whE p s ρ (c := ⟨D⟩) := rfl
@[simp ↓] theorem w_xFor {it : XI} : xFor it g s D ρ = foE it g s ρ (c := ⟨D⟩) := rfl
@[simp ↓] theorem w_xLc {it : XI} {own : List Nat} : xLc it g p x own ρ K Z = lcE it g p x own ρ (c := ⟨K⟩) (z := ⟨Z⟩) := rfl
end
@[simp] theorem isEmpty_snoc {α : Type} (l : List α) (a : α) : (l ++ [a]).isEmpty = false := by cases l <;> rfl
@[simp] theorem ots_map {α : Type} (l : List α) (f : α → O) : O.ts (l.map f) = l.map fun a => (f a).t := by rw [O.ts_map, List.map_map]; rfl
@[simp] theorem ots_rev (l : List O) : O.ts l.reverse = (O.ts l).reverse := by rw [O.ts_map, O.ts_map, List.map_reverse]
end TL

/-! loops and iterators, run -/
namespace TL
open PySem PySem.Spec PyProof.Rows L2
def seqE (t : T) [c : Kb (List T → Prop)] : Prop := match t with
  | .lst ts => c.k ts
  | .kls ts => c.k ts
  | .tup ts => c.k ts
  | .ktp ts => c.k ts
  | _ => False
section
variable {ρ : R} {K : O → R → Prop} {KI : List T → R → Prop} {Z : ZC} {x : XE} {y : XA} {s : XS} {D : ED} {p : XT} {g : XG} {it : XI} {ts : List T} {i j : Int} {z : Str} {f : List T → Prop} {own : List Nat}
@[simp] theorem seqE_l : seqE (.lst ts) (c := ⟨f⟩) = f ts := rfl
@[simp] theorem seqE_t : seqE (.tup ts) (c := ⟨f⟩) = f ts := rfl
@[simp] theorem seqE_k : seqE (.ktp ts) (c := ⟨f⟩) = f ts := rfl
@[simp] theorem its_l : T.its (.lst ts) = some ts := rfl
@[simp] theorem its_t : T.its (.tup ts) = some ts := rfl
@[simp] theorem its_k : T.its (.ktp ts) = some ts := rfl
@[simp ↓] theorem w_xSeqI : xSeqI x ρ KI Z = x ρ (fun o ρ1 => optE o.t.its (c := ⟨fun ts => KI ts ρ1⟩)) Z := by
  unfold xSeqI optE
  congr 1
  funext o ρ1
  cases o.t.its <;> rfl
@[simp ↓] theorem w_xRng1 : xRng1 y ρ KI Z = y ρ (fun os ρ1 => oneE os (c := ⟨fun o => intE o.t (c := ⟨fun j => (-(2 ^ 62) ≤ j ∧ j < 2 ^ 62) ∧ KI (rangeL 0 j.toNat) ρ1⟩)⟩)) Z := by
  unfold xRng1 oneE intE
  congr 1
  funext os ρ1
  cases os with
  | nil => rfl
  | cons o r =>
    cases r with
    | nil =>
      dsimp only [O.ts]
      cases o.t <;> rfl
    | cons b r =>
      dsimp only [O.ts]
      cases o.t <;> rfl
@[simp ↓] theorem w_xRng2 : xRng2 y ρ KI Z = y ρ (fun os ρ1 => consE os (c := ⟨fun a r => oneE r (c := ⟨fun b => intE a.t (c := ⟨fun i => intE b.t (c := ⟨fun j => (-(2 ^ 62) ≤ i ∧ i < 2 ^ 62 ∧ -(2 ^ 62) ≤ j ∧ j < 2 ^ 62) ∧ KI (rangeL i (j - i).toNat) ρ1⟩)⟩)⟩)⟩)) Z := by
  unfold xRng2 consE oneE intE
  congr 1
  funext os ρ1
  cases os with
  | nil => rfl
  | cons o r =>
    cases r with
    | nil =>
      dsimp only [O.ts]
      cases o.t <;> rfl
    | cons b r =>
      cases r with
      | nil =>
        dsimp only [O.ts]
        cases o.t <;> first
          | rfl
          | (cases b.t <;> rfl)
      | cons c r =>
        dsimp only [O.ts]
        cases o.t <;> first
          | rfl
          | (cases b.t <;> rfl)
@[simp ↓] theorem w_xEnumA : xEnumA y ρ KI Z = y ρ (fun os ρ1 => oneE os (c := ⟨fun o => seqE o.t (c := ⟨fun ts => KI (enumL 0 ts) ρ1⟩)⟩)) Z := by
  unfold xEnumA oneE seqE
  congr 1
  funext os ρ1
  cases os with
  | nil => rfl
  | cons o r =>
    cases r with
    | nil =>
      dsimp only [O.ts]
      cases o.t <;> rfl
    | cons b r =>
      dsimp only [O.ts]
      cases o.t <;> rfl
/-- while -/
theorem whI (I : Nat → R → Prop) (h0 : ∃ m, I m ρ) (h : ∀ m ρ, I m ρ → p ρ (fun k ρ1 => brE k (c := ⟨(s { D with nx := fun ρ' => ∃ m', m' < m ∧ I m' ρ', ct := fun ρ' => ∃ m', m' < m ∧ I m' ρ', bk := D.nx } ρ1, D.nx ρ1)⟩)) D.ex) : whE p s ρ (c := ⟨D⟩) := ⟨I, h0, h⟩
/-- for, the items are ts -/
def foGo (g : XG) (s : XS) (ts : List T) (ρ : R) [c : Kb ED] : Prop := ∃ I : Nat → R → Prop, I 0 ρ ∧ (∀ i t ρ, ts[i]? = some t → I i ρ → g (.sh t) ρ fun ρ2 => s { c.k with nx := I (i + 1), ct := I (i + 1), bk := c.k.nx } ρ2) ∧ ∀ ρ, I ts.length ρ → c.k.nx ρ
theorem foI (h : it ρ (fun ts ρ1 => foGo g s ts ρ1 (c := ⟨D⟩)) D.ex) : foE it g s ρ (c := ⟨D⟩) := h
theorem forI (I : Nat → R → Prop) (h0 : I 0 ρ) (h : ∀ i t ρ, ts[i]? = some t → I i ρ → g (.sh t) ρ fun ρ2 => s { D with nx := I (i + 1), ct := I (i + 1), bk := D.nx } ρ2) (h1 : ∀ ρ, I ts.length ρ → D.nx ρ) : foGo g s ts ρ (c := ⟨D⟩) := ⟨I, h0, h, h1⟩
/-- a comprehension, the items are ts -/
def lcGo (g : XG) (p : XT) (x : XE) (own : List Nat) (ts : List T) (ρ : R) [c : Kb (O → R → Prop)] : Prop := ∃ I : Nat → List O → R → Prop, I 0 [] (wipeR ρ own) ∧
  (∀ i t acc ρ, ts[i]? = some t → I i acc ρ → g (.sh t) ρ fun ρ2 => p ρ2 (fun b ρ3 => if b = true then x ρ3 (fun o ρ4 => acc.length < sizeLine ∧ I (i + 1) (acc ++ [o]) (wipeR ρ4 own)) noZ else I (i + 1) acc (wipeR ρ3 own)) noZ) ∧
  ∀ acc ρ, I ts.length acc ρ → c.k (.lst acc) ρ
theorem lcI (h : it ρ (fun ts ρ1 => lcGo g p x own ts ρ1 (c := ⟨K⟩)) Z) : lcE it g p x own ρ (c := ⟨K⟩) (z := ⟨Z⟩) := h
theorem compI (I : Nat → List O → R → Prop) (h0 : I 0 [] (wipeR ρ own))
    (h : ∀ i t acc ρ, ts[i]? = some t → I i acc ρ → g (.sh t) ρ fun ρ2 => p ρ2 (fun b ρ3 => brE b (c := ⟨(x ρ3 (fun o ρ4 => acc.length < sizeLine ∧ onR (wipeR ρ4 own) (c := ⟨I (i + 1) (acc ++ [o])⟩)) noZ, onR (wipeR ρ3 own) (c := ⟨I (i + 1) acc⟩))⟩)) noZ)
    (h1 : ∀ acc ρ, I ts.length acc ρ → K (.lst acc) ρ) : lcGo g p x own ts ρ (c := ⟨K⟩) := ⟨I, h0, h, h1⟩
/-- each item through f, the slots stand -/
theorem compMap {f : T → O} {ρ1 : R} (hw : wipeR ρ own = ρ1) (hl : ts.length ≤ sizeLine) (hK : K (.lst (ts.map f)) ρ1)
    (h : ∀ t ∈ ts, ∀ C : R → Prop, ∀ E : O → R → Prop, (∀ ρ4, wipeR ρ4 own = ρ1 → E (f t) ρ4) → g (.sh t) ρ1 fun ρ2 => p ρ2 (fun b ρ3 => brE b (c := ⟨(x ρ3 E noZ, C ρ3)⟩)) noZ) : lcGo g p x own ts ρ (c := ⟨K⟩) := by
  refine compI (fun i acc r => r = ρ1 ∧ acc = (ts.take i).map f) ⟨hw, by simp⟩ (fun i t acc r ht hi => ?_) fun acc r hi => ?_
  · obtain ⟨rfl, rfl⟩ := hi
    have hlt := (List.getElem?_eq_some_iff.mp ht).1
    refine h t (List.mem_of_getElem? ht) (fun r => onR (wipeR r own) (c := ⟨_⟩)) _ fun ρ4 h4 => ⟨by rw [List.length_map, List.length_take]; omega, h4, ?_⟩
    rw [List.take_add_one, ht, List.map_append]
    rfl
  · obtain ⟨rfl, rfl⟩ := hi
    rw [List.take_length]
    exact hK
end
end TL

/-! row = x[e]; row.append(y): a list within an owned list grows -/
namespace TL
open PySem PySem.Spec PyProof.Rows L2
section
variable {K : PySem.W.Frag} {B Wd H S : Hp} {os os' inner : List O} {vs vs' : List V} {f : List Addr}
theorem Smo.re (h : Smo K B Wd os vs H) (r : ∀ S f, Owns K H S os vs f → ∃ f', Owns K H S os' vs' f' ∧ f.Perm f') : Smo K B Wd os' vs' H := by
  obtain ⟨S, f, h1, h2, h3, h4, h5, h6, h7⟩ := h
  obtain ⟨f', o, p⟩ := r S f h4
  exact ⟨S, f', h1, h2, h3, o, p.nodup_iff.mp h5, fun a ha => h6 a (p.mem_iff.mpr ha), h7⟩
/-- the k-th item stands apart, its address is left -/
theorem Owns.out : ∀ {os : List O} {vs : List V} {f : List Addr} {k : Nat}, Owns K H S os vs f → os[k]? = some (.lst inner) →
    ∃ b ivs fi f', vs[k]? = some (.ref b) ∧ H b = some (.lst ivs) ∧ Owns K H S inner ivs fi ∧ Owns K H S (os.set k (.sh (.adr (.ref b)))) vs f' ∧ f.Perm (b :: fi ++ f')
  | [], _, _, _, _, e => by simp at e
  | o :: os, vs, f, 0, h, e => by
    obtain ⟨v, r, f1, f2, rfl, h1, h2, rfl⟩ := h
    simp at e
    subst e
    obtain ⟨b, ivs, fq, rfl, hb, hi, rfl⟩ := h1
    exact ⟨b, ivs, fq, f2, rfl, hb, hi, ⟨.ref b, r, [], f2, rfl, ⟨rfl, rfl⟩, h2, rfl⟩, List.Perm.refl _⟩
  | o :: os, vs, f, k + 1, h, e => by
    obtain ⟨v, r, f1, f2, rfl, h1, h2, rfl⟩ := h
    simp at e
    obtain ⟨b, ivs, fi, f', q1, q2, q3, q4, q5⟩ := Owns.out h2 e
    refine ⟨b, ivs, fi, f1 ++ f', by simpa using q1, q2, q3, ⟨v, r, f1, f', rfl, h1, q4, rfl⟩, ?_⟩
    refine (List.Perm.append_left f1 q5).trans ?_
    rw [← List.append_assoc, ← List.append_assoc]
    exact List.Perm.append_right f' List.perm_append_comm
/-- and back again -/
theorem Owns.back : ∀ {os : List O} {vs : List V} {f : List Addr} {k : Nat} {b : Addr} {ivs : List V} {fi : List Addr}, Owns K H S (os.set k (.sh (.adr (.ref b)))) vs f → k < os.length → H b = some (.lst ivs) → Owns K H S inner ivs fi →
    ∃ f', Owns K H S (os.set k (.lst inner)) vs f' ∧ (b :: fi ++ f).Perm f'
  | [], _, _, _, _, _, _, _, hk, _, _ => by simp at hk
  | o :: os, vs, f, 0, b, ivs, fi, h, _, hb, hi => by
    obtain ⟨v, r, f1, f2, rfl, ⟨rfl, h1⟩, h2, rfl⟩ := h
    have ev : v = .ref b := h1
    subst ev
    exact ⟨b :: fi ++ f, ⟨.ref b, r, b :: fi, f, rfl, ⟨b, ivs, fi, rfl, hb, hi, rfl⟩, h2, rfl⟩, List.Perm.refl _⟩
  | o :: os, vs, f, k + 1, b, ivs, fi, h, hk, hb, hi => by
    obtain ⟨v, r, f1, f2, rfl, h1, h2, rfl⟩ := h
    obtain ⟨f', q1, q2⟩ := Owns.back (os := os) h2 (by simpa using hk) hb hi
    refine ⟨f1 ++ f', ⟨v, r, f1, f', rfl, h1, q1, rfl⟩, ?_⟩
    refine List.Perm.trans ?_ (List.Perm.append_left f1 q2)
    rw [← List.append_assoc, ← List.append_assoc]
    exact List.Perm.append_right f2 List.perm_append_comm
/-- the k-th list of the list in front grows by a shared value -/
theorem Smo.rowApp {k : Nat} {t : T} {v : V} {a : Addr} (h : Smo K B Wd [.lst os, .sh t] [.ref a, v] H) (hk : os[k]? = some (.lst inner)) : ∃ avs b ivs, H a = some (.lst avs) ∧ avs[k]? = some (.ref b) ∧ H b = some (.lst ivs) ∧ inner.length = ivs.length ∧ os.length = avs.length ∧
    Smo K B Wd [.lst (os.set k (.lst (inner ++ [.sh t])))] [.ref a] (upd H b (.lst (ivs ++ [v]))) := by
  have hkl : k < os.length := (List.getElem?_eq_some_iff.mp hk).1
  -- what stands where
  obtain ⟨avs, b, ivs, ha, hv, hb, hlen, hlen2⟩ : ∃ avs b ivs, H a = some (.lst avs) ∧ avs[k]? = some (.ref b) ∧ H b = some (.lst ivs) ∧ inner.length = ivs.length ∧ os.length = avs.length := by
    obtain ⟨S, f, _, _, _, ⟨w, r, f1, f2, ew, ⟨a', avs, fq, e2, e3, e4, _⟩, _⟩, _⟩ := h
    cases ew
    cases e2
    obtain ⟨b, ivs, fi, f', q1, q2, q3, _⟩ := Owns.out e4 hk
    exact ⟨avs, b, ivs, e3, q1, q2, (Owns.len q3).1, (Owns.len e4).1⟩
  refine ⟨avs, b, ivs, ha, hv, hb, hlen, hlen2, ?_⟩
  -- taken apart
  have h2 : Smo K B Wd [.lst inner, .lst (os.set k (.sh (.adr (.ref b)))), .sh t] [.ref b, .ref a, v] H := h.re fun S f o => by
    obtain ⟨w, r, f1, f2, ew, ⟨a', avs', fq, e2, e3, e4, rfl⟩, o2, rfl⟩ := o
    cases ew
    cases e2
    rw [ha] at e3
    cases e3
    obtain ⟨b', ivs', fi, f', q1, q2, q3, q4, q5⟩ := Owns.out e4 hk
    rw [hv] at q1
    cases q1
    rw [hb] at q2
    cases q2
    refine ⟨b :: fi ++ (a :: f' ++ f2), ⟨.ref b, _, b :: fi, a :: f' ++ f2, rfl, ⟨b, ivs, fi, rfl, hb, q3, rfl⟩, ⟨.ref a, _, a :: f', f2, rfl, ⟨a, avs, f', rfl, ha, q4, rfl⟩, o2, rfl⟩, rfl⟩, ?_⟩
    have p1 : (a :: fq ++ f2).Perm (a :: (b :: fi ++ f') ++ f2) := List.Perm.append_right f2 (List.Perm.cons a q5)
    refine p1.trans ?_
    simp only [List.cons_append, List.append_assoc]
    refine (List.Perm.swap b a _).trans (List.Perm.cons b ?_)
    exact (List.perm_middle (a := a) (l₁ := fi) (l₂ := f' ++ f2)).symm
  obtain ⟨ivs2, hb2, _, up⟩ := h2.setL
  rw [hb] at hb2
  cases hb2
  have h3 := up (inner ++ [.sh t]) [.lst (os.set k (.sh (.adr (.ref b))))] (ivs ++ [v]) [.ref a] fun H' S f g hS o1 o2 => by
    obtain ⟨w, r, f1, f2, ew, oa, o3, rfl⟩ := o2
    cases ew
    obtain ⟨w2, r2, f3, f4, ew2, ob, o4, rfl⟩ := o3
    cases ew2
    obtain ⟨_, rfl⟩ := o4
    exact ⟨f ++ f3, f1, [], o1.app ⟨v, [], f3, [], rfl, ob, ⟨rfl, rfl⟩, by simp⟩, ⟨.ref a, [], f1, [], rfl, oa, ⟨rfl, rfl⟩, by simp⟩, by
      simp only [List.append_nil, List.append_assoc]
      exact List.Perm.append_left f List.perm_append_comm⟩
  -- put together
  exact h3.re fun S f o => by
    obtain ⟨w, r, f1, f2, ew, ⟨b', ivs', fi, e2, e3, e4, rfl⟩, o2, rfl⟩ := o
    cases ew
    cases e2
    obtain ⟨w2, r2, f3, f4, ew2, ⟨a', avs', fq, e5, e6, e7, rfl⟩, o4, rfl⟩ := o2
    cases ew2
    cases e5
    obtain ⟨_, rfl⟩ := o4
    obtain ⟨f', q1, q2⟩ := Owns.back (inner := inner ++ [.sh t]) e7 hkl e3 e4
    refine ⟨a :: f', ⟨.ref a, [], a :: f', [], rfl, ⟨a, avs', f', rfl, e6, q1, rfl⟩, ⟨rfl, rfl⟩, by simp⟩, ?_⟩
    refine List.Perm.trans ?_ (List.Perm.cons a q2)
    simp only [List.cons_append, List.append_nil]
    exact (List.Perm.cons b (List.perm_middle (a := a) (l₁ := fi) (l₂ := fq))).trans (List.Perm.swap a b _)
end
end TL

/-! the statements row = x[e]; row.append(y), then the rest: the row is at home in x again -/
namespace TL
open PySem PySem.Spec PyProof.Rows L2
def xRowApp (j r m : Nat) (x : XE) (rest : XS) : XS := fun D ρ => (∃ c, ρ[j]? = some (some c)) ∧ x ρ (fun oi ρ1 => match slotL ρ1 j, oi.t, ρ1[m]? with
  | some (c, os), .int i, some (some (.sh t)) => (match ixN os.length i with
    | some k => (match os[k]? with
      | some (.lst inner) => inner.length < sizeLine ∧ r < ρ1.length ∧ rest D ((ρ1.set j (some (c.re (.lst (os.set k (.lst (inner ++ [.sh t]))))))).set r none)
      | _ => False)
    | none => False)
  | _, _, _ => False) D.ex
section
variable {K : PySem.W.Frag} {B Wd H : Hp} {os inner : List O} {fr ρ : R} {frv σ : L2.St} {c : O} {t : T} {j m r k : Nat}
theorem Sim.rowApp (s : Sim K B Wd (fr ++ ρ) (frv ++ σ) H) (hl : fr.length = frv.length) (hj : ρ[j]? = some (some c)) (ec : c.un = .lst os) (hm : ρ[m]? = some (some (.sh t))) (hk : os[k]? = some (.lst inner)) (hr : r < ρ.length) :
    ∃ a avs b ivs v, σ[j]? = some (some (.ref a)) ∧ H a = some (.lst avs) ∧ os.length = avs.length ∧ avs[k]? = some (.ref b) ∧ H b = some (.lst ivs) ∧ inner.length = ivs.length ∧ σ[m]? = some (some v) ∧
      Sim K B Wd (fr ++ (ρ.set j (some (c.re (.lst (os.set k (.lst (inner ++ [.sh t]))))))).set r none) (frv ++ σ.set r (some (.ref b))) (upd H b (.lst (ivs ++ [v]))) := by
  obtain ⟨S, fp, v, sm, hv, _, rt⟩ := slot_own hl s hm
  have s1 : Sim K B Wd (some (.sh t) :: (fr ++ ρ)) (some v :: (frv ++ σ)) H := ⟨S, _, sm.push rt⟩
  obtain ⟨w, h1, h2⟩ := s1.pull (n := fr.length + j + 1) (o := c) (by
    rw [List.getElem?_cons_succ, get_app]
    exact hj)
  have h1' : σ[j]? = some (some w) := by
    rw [List.getElem?_cons_succ, hl, get_app] at h1
    exact h1
  rw [List.set_cons_succ, set_app] at h2
  obtain ⟨B', Wd', hBB, h3, back⟩ := Sim.front (as := [c, .sh t]) (va := [w, v]) (os := fr ++ ρ.set j none) (vs := frv ++ σ) rfl (by simpa using h2)
  obtain ⟨h4, re⟩ := h3.un
  rw [ec] at h4
  obtain ⟨a, ew⟩ : ∃ a, w = .ref a := by
    obtain ⟨S, f, _, _, _, ⟨w', r, f1, f2, ew, ⟨a, vs, fq, e2, e3, e4, _⟩, _⟩, _⟩ := h4
    cases ew
    exact ⟨a, e2⟩
  subst ew
  obtain ⟨avs, b, ivs, ha, hb, hbi, e1, e2, h5⟩ := h4.rowApp hk
  refine ⟨a, avs, b, ivs, v, h1', ha, e2, hb, hbi, e1, hv, ?_⟩
  have h6 := re _ _ _ _ h5
  have h7 := back [c.re (.lst (os.set k (.lst (inner ++ [.sh t]))))] [.ref a] _ h6
  have h8 := Sim.setAt (ρ := ρ.set j none) hl (by simpa using h7) j
  rw [List.set_set, set_id h1'] at h8
  have h9 := Sim.setAt (o := .sh (.adr (.ref b))) (v := .ref b) hl (h8.push fun _ => rfl) r
  obtain ⟨u, _, h10⟩ := h9.pull (n := fr.length + r) (o := .sh (.adr (.ref b))) (by
    rw [get_app, List.getElem?_set_self (by simpa using hr)])
  rw [set_app, List.set_set] at h10
  exact h10.drop
end
section
variable {X : Cx} {W : L2.WX} {e b : Expr} {rest : List Stmt} {xb : XE} {xr : XS} {pos pos2 p p2 p3 p4 p5 apos cpos : Pos} {n nr nm : Str}
theorem pss_rowApp (j r m : Nat) (hN : X.N.Nodup) (hb : PEt X W b xb) (hs : PlainIx b) (hrest : PSst X W rest xr)
    (hNj : X.N[j]? = some n := by rfl) (hv : Vis X.env.scope n := by first | exact Or.inl rfl | exact Or.inr (Or.inl rfl) | exact Or.inr (Or.inr rfl)) (hd : (n == ("__debug__" : Str)) = false := by decide) (hcd : (n == ("__classdict__" : Str)) = false := by decide)
    (hNr : X.N[r]? = some nr := by rfl) (hvr : Vis X.env.scope nr := by first | exact Or.inl rfl | exact Or.inr (Or.inl rfl) | exact Or.inr (Or.inr rfl)) (hdr : (nr == ("__debug__" : Str)) = false := by decide) (hcdr : (nr == ("__classdict__" : Str)) = false := by decide)
    (hNm : X.N[m]? = some nm := by rfl) (hvm : Vis X.env.scope nm := by first | exact Or.inl rfl | exact Or.inr (Or.inl rfl) | exact Or.inr (Or.inr rfl)) (hdm : (nm == ("__debug__" : Str)) = false := by decide) (hcdm : (nm == ("__classdict__" : Str)) = false := by decide)
    (hx : Loc X.env.scope nr := by first | exact Or.inl rfl | exact Or.inr rfl) (hsw : swapsWith (.Subscript (.Name n p) b p2) (some (.Name nr p3)) pos.line X.env = pure false := by rfl)
    (hf : X.fn nr = true ∨ X.env.scope.names.lookup nr = some .local := by first | exact .inl rfl | exact .inr rfl | assumption)
    (hbase : attributeBase (.Name nr p4) "append" X.env (eval (.Name nr p4) X.env) = eval (.Name nr p4) X.env := by rfl)
    (hfew : ((backTo cpos (starEach [.Name nm p5] X.env)).all (fun x => !x.1) && (backToKw cpos (keywordEach [] X.env)).all (fun x => x.1.isSome)
      && decide (([.Name nm p5] : List Expr).length + ([] : List Keyword).length + (if ([] : List Keyword).isEmpty then 0 else 1) < 30)) = true := by rfl)
    (hline : (apos.endLine == cpos.line) = true := by rfl) (hst : starEach [.Name nm p5] X.env = (false, eval (.Name nm p5) X.env) :: starEach [] X.env := by rfl) (hplain : (backTo cpos (starEach [] X.env)).any (·.1) = false := by rfl)
    (hsw2 : swapsWith (.Call (.Attribute (.Name nr p4) "append" apos) [.Name nm p5] [] cpos) none pos2.line X.env = pure false := by rfl) (hmr : m ≠ r := by decide) :
    PSst X W (.Assign [.Name nr p3] (.Subscript (.Name n p) b p2) pos :: .Expr (.Call (.Attribute (.Name nr p4) "append" apos) [.Name nm p5] [] cpos) pos2 :: rest) (xRowApp j r m xb xr) :=
  PSs.imp (L2.pss_cons (L2.ps_set hN hNr hx (L2.pe_ix ix_list (L2.pe_var (i := j) hNj hv hd hcd) hb hs) hsw hf)
    (L2.pss_cons (L2.ps_expr (L2.pe_bm PySem.F.plainAttrs_list PySem.F.slot_list_append PySem.F.type_list_append mt_append (L2.pe_var (i := r) hNr hvr hdr hcdr) (L2.pa_cons (L2.pe_var (i := m) hNm hvm hdm hcdm) L2.pa_nil hst) hbase hfew hline hst hplain) hsw2) hrest))
    fun D σ H ⟨B, Wd, fr, frv, ρ, D0, hl, s, hx, q1, q2, q3, q4, q5⟩ => by
    obtain ⟨⟨c0, hc0⟩, hx⟩ := hx
    obtain ⟨_, _, v0, _, hv0, _⟩ := slot_own hl s hc0
    refine ⟨v0, hv0, B, Wd, fr, frv, ρ, _, D0.ex, hl, s, hx, fun o ρ1 vi H1 k1 s1 => ?_, q5 σ⟩
    split at k1
    · rename_i c os i t hsl hi hmt
      obtain ⟨w1, w2⟩ := slotL_some hsl
      cases hix : ixN os.length i with
      | none => rw [hix] at k1; exact k1.elim
      | some k =>
        rw [hix] at k1
        simp only at k1
        split at k1
        · rename_i inner hk
          obtain ⟨k2, k3, k4⟩ := k1
          obtain ⟨a, avs, b', ivs, v, z1, z2, z3, z4, z5, z6, z7, z8⟩ := Sim.rowApp s1.drop hl w1 w2 hmt hk k3
          have hvi : vi = .int i := by
            obtain ⟨S2, _, _, rr⟩ := s1.rep
            rw [hi] at rr
            exact rr
          rw [hv0] at z1
          cases z1
          have hat : atI avs i = some (.ref b') := by
            unfold L2.atI
            rw [← z3, hix]
            exact z4
          have hrs : r < σ.length := by
            have := Sim.app_len hl s1.drop
            omega
          refine ⟨a, avs, i, .ref b', rfl, hvi, SqL.of z2, hat, ?_⟩
          refine ⟨.ref b', List.getElem?_set_self hrs, .inl ⟨rfl, ivs, SqL.of z5⟩, v, ?_, ?_⟩
          · rw [List.getElem?_set_ne (Ne.symm hmr)]
            exact z7
          · exact ⟨b', ivs, v, rfl, rfl, z5, by rw [← z6]; exact k2, B, Wd, fr, frv, _, D0, hl, z8, k4, q1, q2, q3, q4, q5⟩
        · exact k1.elim
    · exact k1.elim
end
end TL

namespace TL
open PySem PySem.Spec PyProof.Rows L2
namespace Rd
/-- parts_of: slots 0 term, 1 word -/
def x_parts_of : XS := xSeq (xAsg (x2 ixT (xName 0) (xC (.int 0))) (gN 1)) (xSeq (xIfS (x2T inT (xName 1) (xTup (xCons (xC (.str "const")) (xCons (xC (.str "name")) (xCons (xC (.str "hole")) (xCons (xC (.str "use")) (xNil))))))) (xRet (xTup (xNil))) (xNext)) (xSeq (xIfS (x2T eqT (xName 1) (xC (.str "note"))) (xRet (xTup (xCons (x2 ixT (xName 0) (xC (.int 1))) (xNil)))) (xNext)) (xSeq (xIfS (x2T inT (xName 1) (xTup (xCons (xC (.str "fn")) (xCons (xC (.str "pick")) (xNil))))) (xRet (xSl (xName 0) (xPart (xC (.int 2))) (xNoP))) (xNext)) (xRet (xSl (xName 0) (xPart (xC (.int 1))) (xNoP))))))
/-- rebuilt: slots 0 term, 1 parts, 2 word -/
def x_rebuilt : XS := xSeq (xAsg (x2 ixT (xName 0) (xC (.int 0))) (gN 2)) (xSeq (xIfS (xNot (xTru (xName 1))) (xRet (xName 0)) (xNext)) (xSeq (xIfS (x2T eqT (xName 2) (xC (.str "note"))) (xRet (xTup (xCons (xName 2) (xCons (x2 ixT (xName 1) (xC (.int 0))) (xCons (x2 ixT (xName 0) (xC (.int 2))) (xNil)))))) (xNext)) (xSeq (xIfS (x2T inT (xName 2) (xTup (xCons (xC (.str "fn")) (xCons (xC (.str "pick")) (xNil))))) (xRet (x2 addT (xTup (xCons (xName 2) (xCons (x2 ixT (xName 0) (xC (.int 1))) (xNil)))) (xName 1))) (xNext)) (xRet (x2 addT (xTup (xCons (xName 2) (xNil))) (xName 1))))))
/-- walk: slots 0 term, 1 rows, 2 stack, 3 here, 4 level, 5 scope, 6 inner, 7 part -/
def x_walk (g_parts_of : PF) : XS := xSeq (xAsg (xLst (xNil)) (gN 1)) (xSeq (xAsg (xLst (xCons (xTup (xCons (xName 0) (xCons (xC (.int 1)) (xCons (xC .non) (xNil))))) (xNil))) (gN 2)) (xSeq (xWhile (xBorT (xTru (xName 2))) (xSeq (xAsg (xPop 2) (gT 3 (gsCons (gN 3) (gsCons (gN 4) (gsCons (gN 5) (gsNil)))))) (xSeq (xAsg (xName 5) (gN 6)) (xSeq (xIfS (x2T eqT (x2 ixT (xName 3) (xC (.int 0))) (xC (.str "fn"))) (xAsg (xTup (xCons (x2 ixT (xName 3) (xC (.int 1))) (xCons (xBor (xB ((un1 lenT)) (xCons (xName 1) (xNil)))) (xCons (xName 5) (xNil))))) (gN 6)) (xNext)) (xSeq (xExp (xApp 1 (xCons (xTup (xCons (xName 3) (xCons (xName 4) (xCons (xName 5) (xNil))))) (xNil)))) (xExp (xExt 2 (xCons (xLc (xSeqI (xRevA (xCall g_parts_of (xCons (xName 3) (xNil))))) (gN 7) (xYes) (xTup (xCons (xName 7) (xCons (x2 addT (xName 4) (xC (.int 1))) (xCons (xName 6) (xNil))))) [7]) (xNil))))))))) (xRet (xMov 1))))
/-- binder_in: slots 0 scope, 1 name -/
def x_binder_in : XS := xSeq (xWhile (x2T notNT (xName 0) (xC .non)) (xSeq (xIfS (x2T eqT (x2 ixT (xName 0) (xC (.int 0))) (xName 1)) (xRet (x2 ixT (xName 0) (xC (.int 1)))) (xNext)) (xAsg (x2 ixT (xName 0) (xC (.int 2))) (gN 0)))) (xRet (xC .non))
/-- is_free: slots 0 row -/
def x_is_free (g_binder_in : PF) : XS := xRet (xAndV (x2 (gB eqT) (x2 ixT (x2 ixT (xName 0) (xC (.int 0))) (xC (.int 0))) (xC (.str "name"))) (x2 (gB isNT) (xCall g_binder_in (xCons (x2 ixT (xName 0) (xC (.int 2))) (xCons (x2 ixT (x2 ixT (xName 0) (xC (.int 0))) (xC (.int 1))) (xNil)))) (xC .non)))
/-- first_free: slots 0 term, 1 row -/
def x_first_free (g_walk : PF) (g_is_free : PF) : XS := xSeq (xFor (xSeqI (xCall g_walk (xCons (xName 0) (xNil)))) (gN 1) (xIfS (xTru (xCall g_is_free (xCons (xName 1) (xNil)))) (xRet (x2 ixT (x2 ixT (xName 1) (xC (.int 0))) (xC (.int 1)))) (xNext))) (xRet (xC .non))
/-- measure: slots 0 rows, 1 deep, 2 row -/
def x_measure : XS := xSeq (xAsg (xC (.int 0)) (gN 1)) (xSeq (xFor (xSeqI (xName 0)) (gN 2) (xAsg (xB ((un2 maxT)) (xCons (xName 1) (xCons (x2 ixT (xName 2) (xC (.int 1))) (xNil)))) (gN 1))) (xRet (xTup (xCons (xName 1) (xCons (xB ((un1 lenT)) (xCons (xName 0) (xNil))) (xNil))))))
/-- swap_measure: slots 0 term, 1 name, 2 closed, 3 low, 4 many, 5 deep, 6 size, 7 row -/
def x_swap_measure (g_measure : PF) (g_walk : PF) (g_is_free : PF) : XS := xSeq (xAsg (xCall g_measure (xCons (xCall g_walk (xCons (xName 2) (xNil))) (xNil))) (gT 2 (gsCons (gN 3) (gsCons (gN 4) (gsNil))))) (xSeq (xAsg (xC (.int 0)) (gN 5)) (xSeq (xAsg (xC (.int 0)) (gN 6)) (xSeq (xFor (xSeqI (xCall g_walk (xCons (xName 0) (xNil)))) (gN 7) (xIfS (xAnd (x2T eqT (x2 ixT (x2 ixT (xName 7) (xC (.int 0))) (xC (.int 0))) (xC (.str "name"))) (xAnd (x2T eqT (x2 ixT (x2 ixT (xName 7) (xC (.int 0))) (xC (.int 1))) (xName 1)) (xTru (xCall g_is_free (xCons (xName 7) (xNil)))))) (xSeq (xAsg (xB ((un2 maxT)) (xCons (xName 5) (xCons (x2 addT (x2 subT (x2 ixT (xName 7) (xC (.int 1))) (xC (.int 1))) (xName 3)) (xNil)))) (gN 5)) (xAsg (x2 addT (xName 6) (xName 4)) (gN 6))) (xSeq (xAsg (xB ((un2 maxT)) (xCons (xName 5) (xCons (x2 ixT (xName 7) (xC (.int 1))) (xNil)))) (gN 5)) (xAsg (x2 addT (xName 6) (xC (.int 1))) (gN 6))))) (xRet (xTup (xCons (xName 5) (xCons (xName 6) (xNil))))))))
/-- swapped: slots 0 term, 1 name, 2 closed, 3 word, 4 part -/
def x_swapped (g_rebuilt : PF) (g_parts_of : PF) (g_swapped : PF) : XS := xSeq (xAsg (x2 ixT (xName 0) (xC (.int 0))) (gN 3)) (xSeq (xIfS (x2T eqT (xName 3) (xC (.str "name"))) (xSeq (xIfS (x2T eqT (x2 ixT (xName 0) (xC (.int 1))) (xName 1)) (xRet (xName 2)) (xNext)) (xRet (xName 0))) (xNext)) (xSeq (xIfS (xAnd (x2T eqT (xName 3) (xC (.str "fn"))) (x2T eqT (x2 ixT (xName 0) (xC (.int 1))) (xName 1))) (xRet (xName 0)) (xNext)) (xRet (xCall g_rebuilt (xCons (xName 0) (xCons (xB ((un1 tupleT)) (xCons (xLc (xSeqI (xCall g_parts_of (xCons (xName 0) (xNil)))) (gN 4) (xYes) (xCall g_swapped (xCons (xName 4) (xCons (xName 1) (xCons (xName 2) (xNil))))) [4]) (xNil))) (xNil)))))))
/-- refuse_great: slots 0 deep, 1 size -/
def x_refuse_great (ga : Str → Addr) : XS := xSeq (xIfS (x2T (intT fun i j => decide (j < i)) (xName 0) (xC (.int 40))) (xRaise (ga "TooDeep") "limit" (xCons (xC (.int 40)) (xNil))) (xNext)) (xIfS (x2T (intT fun i j => decide (j < i)) (xName 1) (xC (.int 300))) (xRaise (ga "TooBig") "limit" (xCons (xC (.int 300)) (xNil))) (xNext))
/-- child_slots: slots 0 term, 1 at, 2 sort -/
def x_child_slots : XS := xRet (xLc (xEnumA (xCons (xTab kvs_LAYOUT (x2 ixT (xName 0) (xC (.int 0)))) (xNil))) (gT 2 (gsCons (gN 1) (gsCons (gN 2) (gsNil)))) (x2T eqT (xName 2) (xC (.str "term"))) (x2 addT (xName 1) (xC (.int 1))) [1, 2])
/-- node_rows: slots 0 term, 1 rows, 2 waiting, 3 row, 4 part, 5 parent, 6 depth, 7 spot, 8 number, 9 slots, 10 slot -/
def x_node_rows (g_child_slots : PF) : XS := xSeq (xAsg (xLst (xNil)) (gN 1)) (xSeq (xAsg (xLst (xCons (xTup (xCons (xName 0) (xCons (xC .non) (xCons (xC (.int 1)) (xCons (xC (.int 0)) (xNil)))))) (xNil))) (gN 2)) (xSeq (xWhile (xBorT (xTru (xName 2))) (xSeq (xAsg (xPop 2) (gN 3)) (xSeq (xAsg (xName 3) (gT 4 (gsCons (gN 4) (gsCons (gN 5) (gsCons (gN 6) (gsCons (gN 7) (gsNil))))))) (xSeq (xAsg (xBor (xB ((un1 lenT)) (xCons (xName 1) (xNil)))) (gN 8)) (xSeq (xExp (xApp 1 (xCons (xName 3) (xNil)))) (xSeq (xAsg (xCall g_child_slots (xCons (xName 4) (xNil))) (gN 9)) (xFor (xSeqI (xRevA (xName 9))) (gN 10) (xExp (xApp 2 (xCons (xTup (xCons (x2 ixT (xName 4) (xName 10)) (xCons (xName 8) (xCons (x2 addT (xName 6) (xC (.int 1))) (xCons (xName 10) (xNil)))))) (xNil))))))))))) (xRet (xMov 1))))
/-- rows_with: slots 0 term, 1 node, 2 rows -/
def x_rows_with (g_node_rows : PF) (ga : Str → Addr) : XS := xSeq (xAsg (xCall g_node_rows (xCons (xName 0) (xNil))) (gN 2)) (xSeq (xIfS (xNot (xChainT (intT fun i j => decide (i ≤ j)) (intT fun i j => decide (i < j)) (xC (.int 0)) (xName 1) (xB ((un1 lenT)) (xCons (xName 2) (xNil))))) (xRaise (ga "NotThere") "number" (xCons (xName 1) (xNil))) (xNext)) (xRet (xName 2)))
/-- node_count: slots 0 term -/
def x_node_count (g_node_rows : PF) : XS := xRet (xB ((un1 lenT)) (xCons (xCall g_node_rows (xCons (xName 0) (xNil))) (xNil)))
/-- term_depth: slots 0 term, 1 deepest, 2 part, 3 parent, 4 depth, 5 slot -/
def x_term_depth (g_node_rows : PF) : XS := xSeq (xAsg (xC (.int 0)) (gN 1)) (xSeq (xFor (xSeqI (xCall g_node_rows (xCons (xName 0) (xNil)))) (gT 4 (gsCons (gN 2) (gsCons (gN 3) (gsCons (gN 4) (gsCons (gN 5) (gsNil)))))) (xIfS (x2T (intT fun i j => decide (j < i)) (xName 4) (xName 1)) (xAsg (xName 4) (gN 1)) (xNext))) (xRet (xName 1)))
/-- replaced_depth: slots 0 rows, 1 node, 2 size, 3 other, 4 deepest, 5 number, 6 part, 7 parent, 8 depth, 9 slot, 10 inside -/
def x_replaced_depth (g_term_depth : PF) : XS := xSeq (xAsg (x2 addT (x2 subT (x2 ixT (x2 ixT (xName 0) (xName 1)) (xC (.int 2))) (xC (.int 1))) (xCall g_term_depth (xCons (xName 3) (xNil)))) (gN 4)) (xSeq (xFor (xEnumA (xCons (xName 0) (xNil))) (gT 2 (gsCons (gN 5) (gsCons (gT 4 (gsCons (gN 6) (gsCons (gN 7) (gsCons (gN 8) (gsCons (gN 9) (gsNil)))))) (gsNil)))) (xSeq (xAsg (xChain (intT fun i j => decide (i ≤ j)) (intT fun i j => decide (i < j)) (xName 1) (xName 5) (x2 addT (xName 1) (xName 2))) (gN 10)) (xIfS (xAnd (xNot (xTru (xName 10))) (x2T (intT fun i j => decide (j < i)) (xName 8) (xName 4))) (xAsg (xName 8) (gN 4)) (xNext)))) (xRet (xName 4)))
/-- with_term: slots 0 term, 1 node, 2 other, 3 rows, 4 size, 5 made, 6 number, 7 part, 8 parent, 9 depth, 10 slot, 11 above -/
def x_with_term (g_rows_with : PF) (g_node_count : PF) (g_replaced_depth : PF) (ga : Str → Addr) : XS := xSeq (xAsg (xCall g_rows_with (xCons (xName 0) (xCons (xName 1) (xNil)))) (gN 3)) (xSeq (xAsg (xCall g_node_count (xCons (x2 ixT (x2 ixT (xName 3) (xName 1)) (xC (.int 0))) (xNil))) (gN 4)) (xSeq (xIfS (x2T (intT fun i j => decide (j < i)) (xCall g_replaced_depth (xCons (xName 3) (xCons (xName 1) (xCons (xName 4) (xCons (xName 2) (xNil)))))) (xC (.int 40))) (xRaise (ga "TooDeep") "limit" (xCons (xC (.int 40)) (xNil))) (xNext)) (xSeq (xIfS (x2T (intT fun i j => decide (j < i)) (x2 addT (x2 subT (xB ((un1 lenT)) (xCons (xName 3) (xNil))) (xName 4)) (xCall g_node_count (xCons (xName 2) (xNil)))) (xC (.int 300))) (xRaise (ga "TooBig") "limit" (xCons (xC (.int 300)) (xNil))) (xNext)) (xSeq (xAsg (xName 2) (gN 5)) (xSeq (xAsg (xName 1) (gN 6)) (xSeq (xWhile (x2T notNT (x2 ixT (x2 ixT (xName 3) (xName 6)) (xC (.int 1))) (xC .non)) (xSeq (xAsg (x2 ixT (xName 3) (xName 6)) (gT 4 (gsCons (gN 7) (gsCons (gN 8) (gsCons (gN 9) (gsCons (gN 10) (gsNil))))))) (xSeq (xAsg (x2 ixT (x2 ixT (xName 3) (xName 8)) (xC (.int 0))) (gN 11)) (xSeq (xAsg (x2 addT (x2 addT (xSl (xName 11) (xNoP) (xPart (xName 10))) (xTup (xCons (xName 5) (xNil)))) (xSl (xName 11) (xPart (x2 addT (xName 10) (xC (.int 1)))) (xNoP))) (gN 5)) (xAsg (xName 8) (gN 6)))))) (xRet (xName 5))))))))
/-- is_redex: slots 0 here, 1 word -/
def x_is_redex (g_first_free : PF) : XS := xSeq (xAsg (x2 ixT (xName 0) (xC (.int 0))) (gN 1)) (xSeq (xIfS (x2T eqT (xName 1) (xC (.str "note"))) (xRet (xC (.bl true))) (xNext)) (xSeq (xIfS (x2T eqT (xName 1) (xC (.str "call"))) (xRet (xAndV (x2 (gB eqT) (x2 ixT (x2 ixT (xName 0) (xC (.int 1))) (xC (.int 0))) (xC (.str "fn"))) (x2 (gB isNT) (xCall g_first_free (xCons (x2 ixT (xName 0) (xC (.int 2))) (xNil))) (xC .non)))) (xNext)) (xSeq (xIfS (x2T inT (xName 1) (xTup (xCons (xC (.str "left")) (xCons (xC (.str "right")) (xNil))))) (xRet (x2 (gB eqT) (x2 ixT (x2 ixT (xName 0) (xC (.int 1))) (xC (.int 0))) (xC (.str "pair")))) (xNext)) (xRet (xAndV (x2 (gB eqT) (xName 1) (xC (.str "unseal"))) (x2 (gB eqT) (x2 ixT (x2 ixT (xName 0) (xC (.int 1))) (xC (.int 0))) (xC (.str "seal"))))))))
/-- redexes: slots 0 term, 1 node, 2 row -/
def x_redexes (g_walk : PF) (g_is_redex : PF) : XS := xRet (xLc (xEnumA (xCons (xCall g_walk (xCons (xName 0) (xNil))) (xNil))) (gT 2 (gsCons (gN 1) (gsCons (gN 2) (gsNil)))) (xTru (xCall g_is_redex (xCons (x2 ixT (xName 2) (xC (.int 0))) (xNil)))) (xName 1) [1, 2])
/-- reduced_root: slots 0 here, 1 word -/
def x_reduced_root (g_swapped : PF) : XS := xSeq (xAsg (x2 ixT (xName 0) (xC (.int 0))) (gN 1)) (xSeq (xIfS (x2T eqT (xName 1) (xC (.str "note"))) (xRet (x2 ixT (xName 0) (xC (.int 1)))) (xNext)) (xSeq (xIfS (x2T eqT (xName 1) (xC (.str "call"))) (xRet (xCall g_swapped (xCons (x2 ixT (x2 ixT (xName 0) (xC (.int 1))) (xC (.int 2))) (xCons (x2 ixT (x2 ixT (xName 0) (xC (.int 1))) (xC (.int 1))) (xCons (x2 ixT (xName 0) (xC (.int 2))) (xNil)))))) (xNext)) (xSeq (xIfS (x2T eqT (xName 1) (xC (.str "right"))) (xRet (x2 ixT (x2 ixT (xName 0) (xC (.int 1))) (xC (.int 2)))) (xNext)) (xRet (x2 ixT (x2 ixT (xName 0) (xC (.int 1))) (xC (.int 1)))))))
/-- reduced_measure: slots 0 here -/
def x_reduced_measure (g_swap_measure : PF) (g_measure : PF) (g_walk : PF) (g_reduced_root : PF) : XS := xSeq (xIfS (x2T eqT (x2 ixT (xName 0) (xC (.int 0))) (xC (.str "call"))) (xRet (xCall g_swap_measure (xCons (x2 ixT (x2 ixT (xName 0) (xC (.int 1))) (xC (.int 2))) (xCons (x2 ixT (x2 ixT (xName 0) (xC (.int 1))) (xC (.int 1))) (xCons (x2 ixT (xName 0) (xC (.int 2))) (xNil)))))) (xNext)) (xRet (xCall g_measure (xCons (xCall g_walk (xCons (xCall g_reduced_root (xCons (xName 0) (xNil))) (xNil))) (xNil))))
/-- reduced_at: slots 0 term, 1 node, 2 rows, 3 here, 4 low, 5 many, 6 behind, 7 deep, 8 size -/
def x_reduced_at (g_walk : PF) (g_is_redex : PF) (g_reduced_measure : PF) (g_measure : PF) (g_refuse_great : PF) (g_with_term : PF) (g_reduced_root : PF) (ga : Str → Addr) : XS := xSeq (xAsg (xCall g_walk (xCons (xName 0) (xNil))) (gN 2)) (xSeq (xIfS (xOr (x2T (intT fun i j => decide (i < j)) (xName 1) (xC (.int 0))) (xOr (x2T (intT fun i j => decide (j ≤ i)) (xName 1) (xB ((un1 lenT)) (xCons (xName 2) (xNil)))) (xNot (xTru (xCall g_is_redex (xCons (x2 ixT (x2 ixT (xName 2) (xName 1)) (xC (.int 0))) (xNil))))))) (xRaise (ga "NotThere") "number" (xCons (xName 1) (xNil))) (xNext)) (xSeq (xAsg (x2 ixT (x2 ixT (xName 2) (xName 1)) (xC (.int 0))) (gN 3)) (xSeq (xAsg (xCall g_reduced_measure (xCons (xName 3) (xNil))) (gT 2 (gsCons (gN 4) (gsCons (gN 5) (gsNil))))) (xSeq (xAsg (x2 addT (xName 1) (xB ((un1 lenT)) (xCons (xCall g_walk (xCons (xName 3) (xNil))) (xNil)))) (gN 6)) (xSeq (xAsg (xCall g_measure (xCons (x2 addT (xSl (xName 2) (xNoP) (xPart (xName 1))) (xSl (xName 2) (xPart (xName 6)) (xNoP))) (xNil))) (gT 2 (gsCons (gN 7) (gsCons (gN 8) (gsNil))))) (xSeq (xExp (xCall g_refuse_great (xCons (xB ((un2 maxT)) (xCons (xName 7) (xCons (x2 addT (x2 subT (x2 ixT (x2 ixT (xName 2) (xName 1)) (xC (.int 1))) (xC (.int 1))) (xName 4)) (xNil)))) (xCons (x2 addT (xName 8) (xName 5)) (xNil))))) (xRet (xCall g_with_term (xCons (xName 0) (xCons (xName 1) (xCons (xCall g_reduced_root (xCons (xName 3) (xNil))) (xNil))))))))))))
/-- _law_mixed: slots 0 number -/
def x__law_mixed : XS := xSeq (xAsg (x2 modT (xB ((un1 toIntT)) (xCons (x2 addT (x2 mulT (xName 0) (xC (.int 7046029254386353))) (xC (.int 1442695040888963))) (xNil))) (xC (.int 2305843009213693951))) (gN 0)) (xSeq (xAsg (x2 modT (xB ((un1 toIntT)) (xCons (x2 addT (x2 mulT (xName 0) (xName 0)) (x2 divT (xName 0) (xC (.int 1073741824)))) (xNil))) (xC (.int 2305843009213693951))) (gN 0)) (xSeq (xAsg (x2 modT (xB ((un1 toIntT)) (xCons (x2 addT (x2 mulT (x2 modT (xB ((un1 toIntT)) (xCons (xName 0) (xNil))) (xC (.int 1073741824))) (xC (.int 2147483659))) (x2 divT (xName 0) (xC (.int 1073741824)))) (xNil))) (xC (.int 2305843009213693951))) (gN 0)) (xRet (x2 modT (xB ((un1 toIntT)) (xCons (x2 addT (x2 mulT (xName 0) (xC (.int 4768777513237033))) (x2 divT (xName 0) (xC (.int 536870912)))) (xNil))) (xC (.int 2305843009213693951))))))
/-- _law_store: slots 0 script, 1 cells, 2 cell, 3 base -/
def x__law_store (g__law_mixed : PF) : XS := xSeq (xAsg (xLc (xSeqI (xSl (xName 0) (xNoP) (xPart (xC (.int 63))))) (gN 2) (xYes) (xB ((un1 toIntT)) (xCons (xName 2) (xNil))) [2]) (gN 1)) (xSeq (xAsg (x2 addT (xC (.int 1000003)) (xB ((un1 lenT)) (xCons (xName 1) (xNil)))) (gN 3)) (xSeq (xFor (xSeqI (xName 1)) (gN 2) (xAsg (xCall g__law_mixed (xCons (x2 addT (x2 mulT (xName 3) (xC (.int 3))) (x2 modT (xB ((un1 toIntT)) (xCons (xName 2) (xNil))) (xC (.int 2305843009213693921)))) (xNil))) (gN 3))) (xRet (xLst (xCons (xName 1) (xCons (xC (.int 0)) (xCons (xC (.int 0)) (xCons (xC (.int 0)) (xCons (xC (.int 0)) (xCons (xName 3) (xCons (xC (.int 0)) (xNil))))))))))))
/-- _law_advance: slots 0 store, 1 cell -/
def x__law_advance : XS := xSeq (xAsg (xB ((un1 absT)) (xCons (x2 ixT (xIxN 0 (xC (.int 0))) (xIxN 0 (xC (.int 1)))) (xNil))) (gN 1)) (xSeq (xAsg (x2 modT (xB ((un1 toIntT)) (xCons (x2 ixT (xIxN 0 (xC (.int 0))) (xIxN 0 (xC (.int 1)))) (xNil))) (xC (.int 2305843009213693921))) (gIxN 0 (xC (.int 6)))) (xSeq (xAsg (x2 addT (xIxN 0 (xC (.int 1))) (xC (.int 1))) (gIxN 0 (xC (.int 1)))) (xSeq (xAsg (xC (.int 0)) (gIxN 0 (xC (.int 2)))) (xSeq (xAsg (xC (.int 4)) (gIxN 0 (xC (.int 3)))) (xIfS (x2T (intT fun i j => decide (j ≤ i)) (xName 1) (x2 powT (xC (.int 10)) (xC (.int 18)))) (xSeq (xAsg (x2 modT (xB ((un1 toIntT)) (xCons (xName 1) (xNil))) (x2 powT (x2 powT (xC (.int 10)) (xC (.int 60))) (xC (.int 7)))) (gIxN 0 (xC (.int 2)))) (xAsg (xC (.int 60)) (gIxN 0 (xC (.int 3))))) (xNext))))))
/-- _law_take: slots 0 store, 1 many, 2 number, 3 salt -/
def x__law_take (g__law_advance : IF) (g__law_mixed : PF) : XS := xSeq (xIfS (x2T (intT fun i j => decide (i < j)) (xName 1) (xC (.int 2))) (xRet (xC (.int 0))) (xNext)) (xSeq (xIfS (xBorT (xAnd (x2T eqT (x2 ixT (xName 0) (xC (.int 3))) (xC (.int 0))) (x2T (intT fun i j => decide (i < j)) (x2 ixT (xName 0) (xC (.int 1))) (xB ((un1 lenT)) (xCons (x2 ixT (xName 0) (xC (.int 0))) (xNil)))))) (xExp (xCallI 0 g__law_advance (xNil))) (xNext)) (xSeq (xAsg (x2 addT (xIxN 0 (xC (.int 4))) (xC (.int 1))) (gIxN 0 (xC (.int 4)))) (xSeq (xAsg (xB ((un1 toIntT)) (xCons (xIxN 0 (xC (.int 2))) (xNil))) (gN 2)) (xSeq (xIfS (xBorT (x2T eqT (x2 ixT (xName 0) (xC (.int 3))) (xC (.int 0)))) (xSeq (xAsg (xC (.int 0)) (gN 2)) (xAsg (xC (.int 0)) (gIxN 0 (xC (.int 6))))) (xAsg (x2 subT (xIxN 0 (xC (.int 3))) (xC (.int 1))) (gIxN 0 (xC (.int 3))))) (xSeq (xIfS (x2T (intT fun i j => decide (j < i)) (xName 2) (xC (.int 0))) (xSeq (xAsg (x2 divT (xName 2) (xName 1)) (gIxN 0 (xC (.int 2)))) (xSeq (xIfS (xBorT (x2T eqT (x2 ixT (xName 0) (xC (.int 2))) (xC (.int 0)))) (xAsg (xC (.int 0)) (gIxN 0 (xC (.int 3)))) (xNext)) (xRet (x2 modT (xB ((un1 toIntT)) (xCons (xName 2) (xNil))) (xName 1))))) (xNext)) (xSeq (xAsg (xIxN 0 (xC (.int 6))) (gN 3)) (xRet (x2 modT (xB ((un1 toIntT)) (xCons (xCall g__law_mixed (xCons (x2 addT (xCall g__law_mixed (xCons (x2 addT (x2 addT (xIxN 0 (xC (.int 5))) (x2 mulT (xName 3) (xC (.int 3)))) (x2 mulT (xIxN 0 (xC (.int 4))) (xC (.int 104729)))) (xNil))) (xName 3)) (xNil))) (xNil))) (xName 1)))))))))
/-- _law_pick: slots 0 store, 1 things -/
def x__law_pick (g__law_take : IF) : XS := xRet (x2 ixT (xName 1) (xCallI 0 g__law_take (xCons (xB ((un1 lenT)) (xCons (xName 1) (xNil))) (xNil))))
/-- _law_amount: slots 0 store, 1 low, 2 high, 3 way -/
def x__law_amount (g__law_take : IF) : XS := xSeq (xIfS (x2T (intT fun i j => decide (i ≤ j)) (xName 2) (xName 1)) (xRet (xName 1)) (xNext)) (xSeq (xAsg (xCallI 0 g__law_take (xCons (xC (.int 6)) (xNil))) (gN 3)) (xSeq (xIfS (x2T eqT (xName 3) (xC (.int 0))) (xRet (xName 1)) (xNext)) (xSeq (xIfS (x2T eqT (xName 3) (xC (.int 1))) (xRet (xName 2)) (xNext)) (xRet (x2 addT (xName 1) (xCallI 0 g__law_take (xCons (x2 addT (x2 subT (xName 2) (xName 1)) (xC (.int 1))) (xNil))))))))
/-- _law_letters: slots 0 store, 1 many, 2 out, 3 turn -/
def x__law_letters (g__law_take : IF) : XS := xSeq (xAsg (xC (.str "")) (gN 2)) (xSeq (xFor (xRng1 (xCons (xName 1) (xNil))) (gN 3) (xAsg (x2 addT (xName 2) (x2 ixT (xC (.str "abcdefghijklmnopqrstuvwxyz")) (xCallI 0 g__law_take (xCons (xC (.int 26)) (xNil))))) (gN 2))) (xRet (xName 2)))
/-- _law_leaf: slots 0 store, 1 kinds, 2 many -/
def x__law_leaf (g__law_take : IF) (g__law_pick : IF) : XS := xSeq (xIfS (xAnd (x2T (intT fun i j => decide (j < i)) (xName 2) (xC (.int 0))) (xOr (x2T eqT (xB ((un1 lenT)) (xCons (xName 1) (xNil))) (xC (.int 0))) (x2T eqT (xCallI 0 g__law_take (xCons (xC (.int 2)) (xNil))) (xC (.int 0))))) (xRet (xTup (xCons (xC (.str "var")) (xCons (xCallI 0 g__law_take (xCons (xName 2) (xNil))) (xNil))))) (xNext)) (xRet (xTup (xCons (xC (.str "kind")) (xCons (xCallI 0 g__law_pick (xCons (xName 1) (xNil))) (xNil)))))
/-- _law_form: slots 0 store, 1 kinds, 2 many, 3 steps, 4 stack, 5 turn, 6 way, 7 two -/
def x__law_form (g__law_take : IF) (g__law_leaf : IF) (g__law_pick : IF) : XS := xSeq (xAsg (xLst (xNil)) (gN 4)) (xSeq (xFor (xRng1 (xCons (xB ((un2 maxT)) (xCons (xC (.int 1)) (xCons (xB ((un1 toIntT)) (xCons (xName 3) (xNil))) (xNil)))) (xNil))) (gN 5) (xSeq (xAsg (xC (.int 0)) (gN 6)) (xSeq (xIfS (xBorT (x2T (intT fun i j => decide (j < i)) (xB ((un1 lenT)) (xCons (xName 4) (xNil))) (xC (.int 0)))) (xAsg (xCallI 0 g__law_take (xCons (xC (.int 5)) (xNil))) (gN 6)) (xNext)) (xIfS (xBorT (xOr (x2T (intT fun i j => decide (i < j)) (xName 6) (xC (.int 2))) (xAnd (x2T (intT fun i j => decide (i < j)) (xName 6) (xC (.int 4))) (x2T (intT fun i j => decide (i < j)) (xB ((un1 lenT)) (xCons (xName 4) (xNil))) (xC (.int 2)))))) (xExp (xApp 4 (xCons (xCallI 0 g__law_leaf (xCons (xName 1) (xCons (xName 2) (xNil)))) (xNil)))) (xIfS (x2T eqT (xName 6) (xC (.int 4))) (xExp (xApp 4 (xCons (xTup (xCons (xC (.str "seal")) (xCons (xPop 4) (xNil)))) (xNil)))) (xSeq (xAsg (xPop 4) (gN 7)) (xExp (xApp 4 (xCons (xTup (xCons (x2 ixT (xLst (xCons (xC (.str "fn")) (xCons (xC (.str "pair")) (xNil)))) (x2 subT (xName 6) (xC (.int 2)))) (xCons (xPop 4) (xCons (xName 7) (xNil))))) (xNil)))))))))) (xSeq (xFor (xRng1 (xCons (x2 subT (xBor (xB ((un1 lenT)) (xCons (xName 4) (xNil)))) (xC (.int 1))) (xNil))) (gN 5) (xSeq (xAsg (xPop 4) (gN 7)) (xExp (xApp 4 (xCons (xTup (xCons (xCallI 0 g__law_pick (xCons (xLst (xCons (xC (.str "fn")) (xCons (xC (.str "pair")) (xNil)))) (xNil))) (xCons (xPop 4) (xCons (xName 7) (xNil))))) (xNil)))))) (xRet (xIxN 4 (xC (.int 0))))))
/-- _law_ground: slots 0 store, 1 kinds -/
def x__law_ground (g__law_form : IF) (g__law_take : IF) : XS := xRet (xCallI 0 g__law_form (xCons (xName 1) (xCons (xC (.int 0)) (xCons (x2 ixT (xLst (xCons (xC (.int 1)) (xCons (xC (.int 2)) (xCons (xC (.int 1)) (xCons (xC (.int 3)) (xCons (xC (.int 3)) (xCons (xC (.int 4)) (xNil)))))))) (xCallI 0 g__law_take (xCons (xC (.int 6)) (xNil)))) (xNil)))))
/-- _law_same: slots 0 one, 1 two, 2 todo, 3 turn, 4 a, 5 b, 6 k -/
def x__law_same : XS := xSeq (xAsg (xLst (xCons (xTup (xCons (xName 0) (xCons (xName 1) (xNil)))) (xNil))) (gN 2)) (xSeq (xFor (xRng1 (xCons (xC (.int 300000)) (xNil))) (gN 3) (xSeq (xIfS (xBorT (x2T eqT (xB ((un1 lenT)) (xCons (xName 2) (xNil))) (xC (.int 0)))) (xRet (xC (.bl true))) (xNext)) (xSeq (xAsg (xPop 2) (gT 2 (gsCons (gN 4) (gsCons (gN 5) (gsNil))))) (xIfS (xOr (x2T isNT (xName 4) (xC .non)) (x2T isNT (xName 5) (xC .non))) (xIfS (xOr (x2T notNT (xName 4) (xC .non)) (x2T notNT (xName 5) (xC .non))) (xRet (xC (.bl false))) (xNext)) (xIfS (xTru (xIsi [.list, .tuple] (xName 4))) (xSeq (xIfS (xOr (xNot (xTru (xIsi [.list, .tuple] (xName 5)))) (xOr (x2T neT (xIsi [.list] (xName 4)) (xIsi [.list] (xName 5))) (x2T neT (xB ((un1 lenT)) (xCons (xName 4) (xNil))) (xB ((un1 lenT)) (xCons (xName 5) (xNil)))))) (xRet (xC (.bl false))) (xNext)) (xFor (xRng1 (xCons (xB ((un1 lenT)) (xCons (xName 4) (xNil))) (xNil))) (gN 6) (xExp (xApp 2 (xCons (xTup (xCons (x2 ixT (xName 4) (xName 6)) (xCons (x2 ixT (xName 5) (xName 6)) (xNil)))) (xNil)))))) (xIfS (xTru (xIsi [.str] (xName 4))) (xIfS (xOr (xNot (xTru (xIsi [.str] (xName 5)))) (x2T neT (xName 4) (xName 5))) (xRet (xC (.bl false))) (xNext)) (xIfS (xTru (xIsi [.int] (xName 4))) (xIfS (xOr (xNot (xTru (xIsi [.int] (xName 5)))) (xOr (x2T neT (xIsi [.bool] (xName 4)) (xIsi [.bool] (xName 5))) (x2T neT (xName 4) (xName 5)))) (xRet (xC (.bl false))) (xNext)) (xRet (xC (.bl false)))))))))) (xRet (xC (.bl false))))
/-- _law_arity: slots 0 word -/
def x__law_arity : XS := xSeq (xIfS (x2T inT (xName 0) (xLst (xCons (xC (.str "const")) (xCons (xC (.str "name")) (xCons (xC (.str "hole")) (xCons (xC (.str "use")) (xNil))))))) (xRet (xC (.int 0))) (xNext)) (xSeq (xIfS (x2T inT (xName 0) (xLst (xCons (xC (.str "call")) (xCons (xC (.str "pair")) (xNil))))) (xRet (xC (.int 2))) (xNext)) (xSeq (xIfS (x2T eqT (xName 0) (xC (.str "pick"))) (xRet (xC (.int 3))) (xNext)) (xRet (xC (.int 1)))))
/-- _law_term: slots 0 heads, 1 stack, 2 k, 3 head, 4 parts, 5 turn -/
def x__law_term (g__law_arity : PF) : XS := xSeq (xAsg (xLst (xNil)) (gN 1)) (xSeq (xFor (xRng3 (xCons (x2 subT (xB ((un1 lenT)) (xCons (xName 0) (xNil))) (xC (.int 1))) (xCons (xNeg (xC (.int 1))) (xCons (xNeg (xC (.int 1))) (xNil))))) (gN 2) (xSeq (xAsg (x2 ixT (xName 0) (xName 2)) (gN 3)) (xSeq (xAsg (xLc (xRng1 (xCons (xCall g__law_arity (xCons (x2 ixT (xName 3) (xC (.int 0))) (xNil))) (xNil))) (gN 5) (xYes) (xPop 1) [5]) (gN 4)) (xIfS (x2T eqT (x2 ixT (xName 3) (xC (.int 0))) (xC (.str "note"))) (xExp (xApp 1 (xCons (xTup (xCons (xC (.str "note")) (xCons (x2 ixT (xName 4) (xC (.int 0))) (xCons (x2 ixT (xName 3) (xC (.int 1))) (xNil))))) (xNil)))) (xExp (xApp 1 (xCons (x2 addT (xName 3) (xB ((un1 tupleT)) (xCons (xName 4) (xNil)))) (xNil)))))))) (xRet (xIxN 1 (xC (.int 0)))))
/-- _law_end_head: slots 0 store, 1 names, 2 consts, 3 uses, 4 scope, 5 free, 6 way -/
def x__law_end_head (g__law_take : IF) (g__law_pick : IF) : XS := xSeq (xIfS (xAnd (xTru (xName 5)) (x2T eqT (xCallI 0 g__law_take (xCons (xC (.int 4)) (xNil))) (xC (.int 1)))) (xRet (xTup (xCons (xC (.str "name")) (xCons (xCallI 0 g__law_pick (xCons (xName 1) (xNil))) (xNil))))) (xNext)) (xSeq (xIfS (xAnd (x2T eqT (xName 6) (xC (.int 1))) (x2T (intT fun i j => decide (j < i)) (xB ((un1 lenT)) (xCons (xName 2) (xNil))) (xC (.int 0)))) (xRet (xTup (xCons (xC (.str "const")) (xCons (xCallI 0 g__law_pick (xCons (xName 2) (xNil))) (xNil))))) (xNext)) (xSeq (xIfS (xAnd (x2T eqT (xName 6) (xC (.int 3))) (x2T (intT fun i j => decide (j < i)) (xB ((un1 lenT)) (xCons (xName 3) (xNil))) (xC (.int 0)))) (xRet (xTup (xCons (xC (.str "use")) (xCons (xCallI 0 g__law_pick (xCons (xName 3) (xNil))) (xNil))))) (xNext)) (xSeq (xIfS (xAnd (x2T neT (xName 6) (xC (.int 2))) (x2T (intT fun i j => decide (j < i)) (xB ((un1 lenT)) (xCons (xName 4) (xNil))) (xC (.int 0)))) (xRet (xTup (xCons (xC (.str "name")) (xCons (xCallI 0 g__law_pick (xCons (xName 4) (xNil))) (xNil))))) (xNext)) (xSeq (xIfS (xAnd (x2T (intT fun i j => decide (j < i)) (xB ((un1 lenT)) (xCons (xName 2) (xNil))) (xC (.int 0))) (x2T eqT (xCallI 0 g__law_take (xCons (xC (.int 2)) (xNil))) (xC (.int 1)))) (xRet (xTup (xCons (xC (.str "const")) (xCons (xCallI 0 g__law_pick (xCons (xName 2) (xNil))) (xNil))))) (xNext)) (xRet (xTup (xCons (xC (.str "hole")) (xNil))))))))
/-- _law_some_heads: slots 0 store, 1 names, 2 consts, 3 uses, 4 kinds, 5 size, 6 deep, 7 free, 8 inner, 9 out, 10 todo, 11 turn, 12 scope, 13 depth, 14 room, 15 way, 16 word, 17 head, 18 k -/
def x__law_some_heads (g__law_take : IF) (g__law_arity : PF) (g__law_end_head : IF) (g__law_pick : IF) (g__law_ground : IF) : XS := xSeq (xAsg (xLst (xCons (xC (.str "fn")) (xCons (xC (.str "fn")) (xCons (xC (.str "call")) (xCons (xC (.str "call")) (xCons (xC (.str "pair")) (xCons (xC (.str "left")) (xCons (xC (.str "right")) (xCons (xC (.str "seal")) (xCons (xC (.str "unseal")) (xCons (xC (.str "note")) (xCons (xC (.str "pick")) (xNil))))))))))))) (gN 8)) (xSeq (xAsg (xLst (xNil)) (gN 9)) (xSeq (xAsg (xLst (xCons (xTup (xCons (xTup (xNil)) (xCons (xC (.int 1)) (xNil)))) (xNil))) (gN 10)) (xSeq (xFor (xRng1 (xCons (xName 5) (xNil))) (gN 11) (xSeq (xIfS (xBorT (x2T eqT (xB ((un1 lenT)) (xCons (xName 10) (xNil))) (xC (.int 0)))) ((fun D ρ => D.bk ρ)) (xNext)) (xSeq (xAsg (xPop 10) (gT 2 (gsCons (gN 12) (gsCons (gN 13) (gsNil))))) (xSeq (xAsg (x2 subT (x2 subT (x2 subT (xName 5) (xName 11)) (xC (.int 1))) (xBor (xB ((un1 lenT)) (xCons (xName 10) (xNil))))) (gN 14)) (xSeq (xAsg (xCallI 0 g__law_take (xCons (xC (.int 15)) (xNil))) (gN 15)) (xSeq (xIfS (xAnd (x2T (intT fun i j => decide (i < j)) (xName 15) (xC (.int 4))) (xAnd (xBorT (x2T eqT (xB ((un1 lenT)) (xCons (xName 10) (xNil))) (xC (.int 0)))) (x2T (intT fun i j => decide (j < i)) (xCallI 0 g__law_take (xCons (xC (.int 3)) (xNil))) (xC (.int 0))))) (xAsg (x2 addT (xC (.int 4)) (xCallI 0 g__law_take (xCons (xC (.int 11)) (xNil)))) (gN 15)) (xNext)) (xSeq (xAsg (x2 ixT (xName 8) (xB ((un2 maxT)) (xCons (xC (.int 0)) (xCons (x2 subT (xName 15) (xC (.int 4))) (xNil))))) (gN 16)) (xSeq (xIfS (xOr (x2T (intT fun i j => decide (i < j)) (xName 15) (xC (.int 4))) (xOr (x2T (intT fun i j => decide (j ≤ i)) (xName 13) (xName 6)) (xOr (x2T (intT fun i j => decide (j < i)) (xCall g__law_arity (xCons (xName 16) (xNil))) (xName 14)) (xAnd (x2T inT (xName 16) (xLst (xCons (xC (.str "note")) (xCons (xC (.str "pick")) (xNil))))) (x2T eqT (xB ((un1 lenT)) (xCons (xName 4) (xNil))) (xC (.int 0))))))) (xSeq (xExp (xApp 9 (xCons (xCallI 0 g__law_end_head (xCons (xName 1) (xCons (xName 2) (xCons (xName 3) (xCons (xName 12) (xCons (xName 7) (xCons (x2 modT (xB ((un1 toIntT)) (xCons (xName 15) (xNil))) (xC (.int 4))) (xNil)))))))) (xNil)))) ((fun D ρ => D.ct ρ))) (xNext)) (xSeq (xAsg (xTup (xCons (xName 16) (xNil))) (gN 17)) (xSeq (xIfS (x2T eqT (xName 16) (xC (.str "fn"))) (xSeq (xAsg (xTup (xCons (xC (.str "fn")) (xCons (xCallI 0 g__law_pick (xCons (xName 1) (xNil))) (xNil)))) (gN 17)) (xAsg (x2 addT (xName 12) (xTup (xCons (x2 ixT (xName 17) (xC (.int 1))) (xNil)))) (gN 12))) (xNext)) (xSeq (xIfS (x2T eqT (xName 16) (xC (.str "note"))) (xAsg (xTup (xCons (xC (.str "note")) (xCons (xCallI 0 g__law_ground (xCons (xName 4) (xNil))) (xNil)))) (gN 17)) (xNext)) (xSeq (xIfS (x2T eqT (xName 16) (xC (.str "pick"))) (xAsg (xTup (xCons (xC (.str "pick")) (xCons (xCallI 0 g__law_pick (xCons (xName 4) (xNil))) (xNil)))) (gN 17)) (xNext)) (xSeq (xExp (xApp 9 (xCons (xName 17) (xNil)))) (xFor (xRng1 (xCons (xCall g__law_arity (xCons (xName 16) (xNil))) (xNil))) (gN 18) (xExp (xApp 10 (xCons (xTup (xCons (xName 12) (xCons (x2 addT (xName 13) (xC (.int 1))) (xNil)))) (xNil)))))))))))))))))) (xRet (xMov 9)))))
/-- _law_tree: slots 0 heads, 1 parents, 2 levels, 3 kids, 4 ends, 5 waiting, 6 n, 7 row, 8 turn, 9 at -/
def x__law_tree (g__law_arity : PF) : XS := xSeq (xAsg (xLst (xNil)) (gN 1)) (xSeq (xAsg (xLst (xNil)) (gN 2)) (xSeq (xAsg (xLst (xNil)) (gN 3)) (xSeq (xAsg (xLst (xNil)) (gN 4)) (xSeq (xAsg (xLst (xNil)) (gN 5)) (xSeq (xFor (xRng1 (xCons (xB ((un1 lenT)) (xCons (xName 0) (xNil))) (xNil))) (gN 6) (xSeq (xExp (xApp 1 (xCons (xC .non) (xNil)))) (xSeq (xExp (xApp 2 (xCons (xC (.int 1)) (xNil)))) (xSeq (xIfS (xBorT (x2T (intT fun i j => decide (j < i)) (xB ((un1 lenT)) (xCons (xName 5) (xNil))) (xC (.int 0)))) (xSeq (xAsg (xIxN 5 (xNeg (xC (.int 1)))) (gIxN 1 (xName 6))) (xSeq (xAsg (x2 addT (xIxN 2 (xIxN 5 (xNeg (xC (.int 1))))) (xC (.int 1))) (gIxN 2 (xName 6))) (xRowApp 3 7 6 (xIxN 5 (xNeg (xC (.int 1)))) (xNext)))) (xNext)) (xSeq (xExp (xApp 3 (xCons (xLst (xNil)) (xNil)))) (xSeq (xExp (xApp 4 (xCons (x2 addT (xName 6) (xC (.int 1))) (xNil)))) (xSeq (xExp (xApp 5 (xCons (xName 6) (xNil)))) (xFor (xRng1 (xCons (xBor (xB ((un1 lenT)) (xCons (xName 5) (xNil)))) (xNil))) (gN 8) (xSeq (xAsg (xIxN 5 (xNeg (xC (.int 1)))) (gN 9)) (xSeq (xIfS (xBorT (x2T (intT fun i j => decide (i < j)) (xB ((un1 lenT)) (xCons (x2 ixT (xName 3) (xName 9)) (xNil))) (xCall g__law_arity (xCons (x2 ixT (x2 ixT (xName 0) (xName 9)) (xC (.int 0))) (xNil))))) ((fun D ρ => D.bk ρ)) (xNext)) (xSeq (xAsg (x2 addT (xName 6) (xC (.int 1))) (gIxN 4 (xName 9))) (xExp (xPop 5))))))))))))) (xRet (xTup (xCons (xName 1) (xCons (xName 2) (xCons (xName 3) (xCons (xName 4) (xNil))))))))))))
/-- _law_binder: slots 0 heads, 1 parents, 2 n, 3 at, 4 turn -/
def x__law_binder : XS := xSeq (xAsg (x2 ixT (xName 1) (xName 2)) (gN 3)) (xSeq (xFor (xRng1 (xCons (xB ((un1 lenT)) (xCons (xName 0) (xNil))) (xNil))) (gN 4) (xSeq (xIfS (xOr (x2T isNT (xName 3) (xC .non)) (x2T eqT (x2 ixT (xName 0) (xName 3)) (xTup (xCons (xC (.str "fn")) (xCons (x2 ixT (x2 ixT (xName 0) (xName 2)) (xC (.int 1))) (xNil)))))) ((fun D ρ => D.bk ρ)) (xNext)) (xAsg (x2 ixT (xName 1) (xName 3)) (gN 3)))) (xRet (xName 3)))
/-- _law_chain: slots 0 store, 1 x, 2 levels, 3 nodes, 4 out, 5 turn, 6 ones -/
def x__law_chain (g__law_pick : IF) : XS := xSeq (xAsg (xLst (xNil)) (gN 4)) (xSeq (xFor (xRng1 (xCons (x2 subT (xName 3) (xName 2)) (xNil))) (gN 5) (xAsg (x2 addT (xName 4) (xLst (xCons (xCallI 0 g__law_pick (xCons (xLst (xCons (xTup (xCons (xC (.str "pair")) (xNil))) (xCons (xTup (xCons (xC (.str "call")) (xNil))) (xNil)))) (xNil))) (xCons (xTup (xCons (xC (.str "hole")) (xNil))) (xNil))))) (gN 4))) (xSeq (xAsg (xLst (xCons (xTup (xCons (xC (.str "fn")) (xCons (xName 1) (xNil)))) (xCons (xTup (xCons (xC (.str "left")) (xNil))) (xCons (xTup (xCons (xC (.str "seal")) (xNil))) (xCons (xTup (xCons (xC (.str "unseal")) (xNil))) (xNil)))))) (gN 6)) (xRet (x2 addT (x2 addT (xName 4) (xLc (xRng1 (xCons (x2 subT (x2 subT (x2 mulT (xC (.int 2)) (xName 2)) (xC (.int 1))) (xName 3)) (xNil))) (gN 5) (xYes) (xCallI 0 g__law_pick (xCons (xName 6) (xNil))) [5])) (xLst (xCons (xTup (xCons (xC (.str "hole")) (xNil))) (xNil)))))))
/-- _law_closed: slots 0 heads, 1 parents, 2 names, 3 n -/
def x__law_closed (g__law_tree : PF) (g__law_binder : PF) : XS := xSeq (xAsg (x2 ixT (xCall g__law_tree (xCons (xName 0) (xNil))) (xC (.int 0))) (gN 1)) (xSeq (xAsg (xLc (xRng1 (xCons (xB ((un1 lenT)) (xCons (xName 0) (xNil))) (xNil))) (gN 3) (x2T eqT (x2 ixT (x2 ixT (xName 0) (xName 3)) (xC (.int 0))) (xC (.str "name"))) (xName 3) [3]) (gN 2)) (xRet (xNotV (xB ((un1 (boolsT fun bs => bs.any id))) (xCons (xLc (xSeqI (xName 2)) (gN 3) (xYes) (x2 (gB isNT) (xCall g__law_binder (xCons (xName 0) (xCons (xName 1) (xCons (xName 3) (xNil))))) (xC .non)) [3]) (xNil))))))
/-- _law_reduct: slots 0 heads, 1 tree, 2 n, 3 word, 4 parents, 5 levels, 6 kids, 7 ends, 8 inner, 9 half, 10 argument, 11 out, 12 k -/
def x__law_reduct (g__law_closed : PF) (g__law_binder : PF) : XS := xSeq (xAsg (x2 ixT (x2 ixT (xName 0) (xName 2)) (xC (.int 0))) (gN 3)) (xSeq (xAsg (xName 1) (gT 4 (gsCons (gN 4) (gsCons (gN 5) (gsCons (gN 6) (gsCons (gN 7) (gsNil))))))) (xSeq (xIfS (x2T notInT (xName 3) (xLst (xCons (xC (.str "call")) (xCons (xC (.str "left")) (xCons (xC (.str "right")) (xCons (xC (.str "unseal")) (xCons (xC (.str "note")) (xNil)))))))) (xRet (xLst (xNil))) (xNext)) (xSeq (xAsg (x2 ixT (x2 ixT (xName 6) (xName 2)) (xC (.int 0))) (gN 8)) (xSeq (xIfS (x2T eqT (xName 3) (xC (.str "note"))) (xRet (xSl (xName 0) (xPart (xName 8)) (xPart (x2 ixT (xName 7) (xName 8))))) (xNext)) (xSeq (xIfS (x2T eqT (xName 3) (xC (.str "unseal"))) (xRet (x2 mulT (xSl (xName 0) (xPart (x2 addT (xName 8) (xC (.int 1)))) (xPart (x2 ixT (xName 7) (xName 8)))) (xB ((un1 toIntT)) (xCons (x2 (gB eqT) (x2 ixT (x2 ixT (xName 0) (xName 8)) (xC (.int 0))) (xC (.str "seal"))) (xNil))))) (xNext)) (xSeq (xIfS (x2T inT (xName 3) (xLst (xCons (xC (.str "left")) (xCons (xC (.str "right")) (xNil))))) (xSeq (xIfS (x2T neT (x2 ixT (x2 ixT (xName 0) (xName 8)) (xC (.int 0))) (xC (.str "pair"))) (xRet (xLst (xNil))) (xNext)) (xSeq (xAsg (x2 ixT (x2 ixT (xName 6) (xName 8)) (xB ((un1 toIntT)) (xCons (x2 (gB eqT) (xName 3) (xC (.str "right"))) (xNil)))) (gN 9)) (xRet (xSl (xName 0) (xPart (xName 9)) (xPart (x2 ixT (xName 7) (xName 9))))))) (xNext)) (xSeq (xAsg (xSl (xName 0) (xPart (x2 ixT (x2 ixT (xName 6) (xName 2)) (xC (.int 1)))) (xPart (x2 ixT (xName 7) (xName 2)))) (gN 10)) (xSeq (xIfS (xOr (x2T neT (x2 ixT (x2 ixT (xName 0) (xName 8)) (xC (.int 0))) (xC (.str "fn"))) (xNot (xTru (xCall g__law_closed (xCons (xName 10) (xNil)))))) (xRet (xLst (xNil))) (xNext)) (xSeq (xAsg (xLst (xNil)) (gN 11)) (xSeq (xFor (xRng2 (xCons (x2 addT (xName 8) (xC (.int 1))) (xCons (x2 ixT (xName 7) (xName 8)) (xNil)))) (gN 12) (xIfS (xAnd (x2T eqT (x2 ixT (x2 ixT (xName 0) (xName 12)) (xC (.int 0))) (xC (.str "name"))) (x2T eqT (xCall g__law_binder (xCons (xName 0) (xCons (xName 4) (xCons (xName 12) (xNil))))) (xName 8))) (xAsg (x2 addT (xName 11) (xName 10)) (gN 11)) (xExp (xApp 11 (xCons (x2 ixT (xName 0) (xName 12)) (xNil)))))) (xRet (xMov 11))))))))))))
/-- _law_wrapped: slots 0 store, 1 heads, 2 names, 3 words, 4 n, 5 end, 6 mine, 7 free, 8 other, 9 way -/
def x__law_wrapped (g__law_take : IF) (g__law_tree : PF) (g__law_some_heads : IF) (g__law_pick : IF) : XS := xSeq (xAsg (xCallI 0 g__law_take (xCons (xB ((un1 lenT)) (xCons (xName 1) (xNil))) (xNil))) (gN 4)) (xSeq (xAsg (x2 ixT (x2 ixT (xCall g__law_tree (xCons (xName 1) (xNil))) (xC (.int 3))) (xName 4)) (gN 5)) (xSeq (xAsg (xSl (xName 1) (xPart (xName 4)) (xPart (xName 5))) (gN 6)) (xSeq (xAsg (x2 (gB eqT) (xCallI 0 g__law_take (xCons (xC (.int 4)) (xNil))) (xC (.int 3))) (gN 7)) (xSeq (xAsg (xCallI 0 g__law_some_heads (xCons (xName 2) (xCons (xName 3) (xCons (xName 3) (xCons (xLst (xCons (xC (.str "a")) (xCons (xC (.str "b07")) (xNil)))) (xCons (x2 addT (xC (.int 1)) (xCallI 0 g__law_take (xCons (xC (.int 5)) (xNil)))) (xCons (xC (.int 4)) (xCons (xName 7) (xNil))))))))) (gN 8)) (xSeq (xAsg (xCallI 0 g__law_take (xCons (xC (.int 8)) (xNil))) (gN 9)) (xSeq (xIfS (x2T (intT fun i j => decide (i < j)) (xName 9) (xC (.int 3))) (xAsg (x2 addT (x2 addT (xLst (xCons (xTup (xCons (xC (.str "call")) (xNil))) (xCons (xTup (xCons (xC (.str "fn")) (xCons (xCallI 0 g__law_pick (xCons (xName 2) (xNil))) (xNil)))) (xNil)))) (xName 6)) (xName 8)) (gN 6)) (xIfS (x2T eqT (xName 9) (xC (.int 3))) (xAsg (x2 addT (x2 addT (xLst (xCons (xTup (xCons (xC (.str "call")) (xNil))) (xNil))) (xName 8)) (xName 6)) (gN 6)) (xIfS (x2T eqT (xName 9) (xC (.int 4))) (xAsg (x2 addT (x2 addT (xLst (xCons (xTup (xCons (xC (.str "left")) (xNil))) (xCons (xTup (xCons (xC (.str "pair")) (xNil))) (xNil)))) (xName 6)) (xName 8)) (gN 6)) (xIfS (x2T eqT (xName 9) (xC (.int 5))) (xAsg (x2 addT (x2 addT (xLst (xCons (xTup (xCons (xC (.str "right")) (xNil))) (xCons (xTup (xCons (xC (.str "pair")) (xNil))) (xNil)))) (xName 8)) (xName 6)) (gN 6)) (xIfS (x2T eqT (xName 9) (xC (.int 6))) (xAsg (x2 addT (xLst (xCons (xCallI 0 g__law_pick (xCons (xLst (xCons (xTup (xCons (xC (.str "unseal")) (xNil))) (xCons (xTup (xCons (xC (.str "unseal")) (xNil))) (xCons (xTup (xCons (xC (.str "left")) (xNil))) (xNil))))) (xNil))) (xCons (xTup (xCons (xC (.str "seal")) (xNil))) (xNil)))) (xName 6)) (gN 6)) (xAsg (x2 addT (xLst (xCons (xTup (xCons (xC (.str "note")) (xCons (xCallI 0 g__law_pick (xCons (xLst (xCons (xTup (xCons (xC (.str "kind")) (xCons (xC (.str "a")) (xNil)))) (xCons (xTup (xCons (xC (.str "seal")) (xCons (xTup (xCons (xC (.str "kind")) (xCons (xC (.str "zz")) (xNil)))) (xNil)))) (xNil)))) (xNil))) (xNil)))) (xNil))) (xName 6)) (gN 6))))))) (xRet (x2 addT (x2 addT (xSl (xName 1) (xNoP) (xPart (xName 4))) (xName 6)) (xSl (xName 1) (xPart (xName 5)) (xNoP))))))))))
/-- _law_bound_heads: slots 0 store, 1 x, 2 levels, 3 seals, 4 outer, 5 side, 6 body, 7 turn, 8 call -/
def x__law_bound_heads (g__law_take : IF) (g__law_chain : IF) : XS := xSeq (xAsg (x2 addT (xC (.int 18)) (xCallI 0 g__law_take (xCons (xC (.int 10)) (xNil)))) (gN 2)) (xSeq (xAsg (x2 subT (x2 addT (xC (.int 35)) (xCallI 0 g__law_take (xCons (xC (.int 4)) (xNil)))) (xName 2)) (gN 3)) (xSeq (xAsg (xCallI 0 g__law_take (xCons (xC (.int 6)) (xNil))) (gN 4)) (xSeq (xAsg (x2 subT (x2 addT (xC (.int 27)) (xCallI 0 g__law_take (xCons (xC (.int 4)) (xNil)))) (xName 3)) (gN 5)) (xSeq (xAsg (xLst (xCons (xTup (xCons (xC (.str "name")) (xCons (xName 1) (xNil)))) (xNil))) (gN 6)) (xSeq (xFor (xRng1 (xCons (xC (.int 3)) (xNil))) (gN 7) (xAsg (x2 addT (x2 addT (xLst (xCons (xTup (xCons (xC (.str "pair")) (xNil))) (xNil))) (xName 6)) (xName 6)) (gN 6))) (xSeq (xAsg (x2 addT (xLc (xRng1 (xCons (x2 subT (xName 3) (xName 4)) (xNil))) (gN 7) (xYes) (xTup (xCons (xC (.str "seal")) (xNil))) [7]) (xName 6)) (gN 6)) (xSeq (xAsg (x2 addT (x2 addT (xLst (xCons (xTup (xCons (xC (.str "call")) (xNil))) (xCons (xTup (xCons (xC (.str "fn")) (xCons (xName 1) (xNil)))) (xNil)))) (xName 6)) (xCallI 0 g__law_chain (xCons (xName 1) (xCons (xName 2) (xCons (xC (.int 33)) (xNil)))))) (gN 8)) (xRet (x2 addT (x2 addT (x2 addT (xLst (xCons (xTup (xCons (xC (.str "pair")) (xNil))) (xNil))) (xLc (xRng1 (xCons (xName 4) (xNil))) (gN 7) (xYes) (xTup (xCons (xC (.str "seal")) (xNil))) [7])) (xName 8)) (xCallI 0 g__law_chain (xCons (xName 1) (xCons (x2 addT (x2 divT (xName 5) (xC (.int 2))) (xC (.int 1))) (xCons (xName 5) (xNil))))))))))))))
/-- _law_told: slots 0 term, 1 node, 2 e, 3 flags, 4 told, 5 k -/
def x__law_told (g_reduced_at : PF) (cs : Addr → Prop) (tst : Addr → Option Bool) (kit : Addr → Str → Option Bool) (kitV : Addr → Option Bool) : XS := xSeq (xTry cs tst 2 (xRet (xLst (xCons (xC (.str "answer")) (xCons (xCall g_reduced_at (xCons (xName 0) (xCons (xName 1) (xNil)))) (xNil))))) (fun a d C => xSeq (xAsg (xLst (xCons (xIsX a d C (kit C "BadText") (xName 2)) (xCons (xIsX a d C (kit C "UnknownName") (xName 2)) (xCons (xIsX a d C (kit C "Twice") (xName 2)) (xCons (xIsX a d C (kit C "Circle") (xName 2)) (xNil)))))) (gN 3)) (xSeq (xAsg (x2 addT (xName 3) (xLst (xCons (xIsX a d C (kit C "BadRow") (xName 2)) (xCons (xIsX a d C (kit C "NotThere") (xName 2)) (xCons (xIsX a d C (kit C "TooDeep") (xName 2)) (xCons (xIsX a d C (kit C "TooBig") (xName 2)) (xNil))))))) (gN 3)) (xSeq (xAsg (x2 addT (xName 3) (xLst (xCons (xIsX a d C (kit C "NoMeaning") (xName 2)) (xCons (xIsX a d C (kit C "NoSolution") (xName 2)) (xCons (xIsX a d C (kit C "Rough") (xName 2)) (xNil)))))) (gN 3)) (xSeq (xAsg (x2 addT (xName 3) (xLst (xCons (xIsX a d C (kit C "InUse") (xName 2)) (xCons (xIsX a d C (kit C "TooWide") (xName 2)) (xCons (xIsX a d C (kit C "Stuck") (xName 2)) (xCons (xIsX a d C (kit C "TooLong") (xName 2)) (xNil))))))) (gN 3)) (xSeq (xAsg (xLc (xRng1 (xCons (xC (.int 15)) (xNil))) (gN 5) (xAnd (xTru (x2 ixT (xName 3) (xName 5))) (xTru (xIsX a d C (kitV C) (xName 2)))) (xName 5) [5]) (gN 4)) (xSeq (xIfS (x2T eqT (xName 4) (xLst (xCons (xC (.int 5)) (xNil)))) (xRet (xLst (xCons (xC (.str "NotThere")) (xCons (xFld a d C "number" (xName 2)) (xNil))))) (xNext)) (xIfS (x2T inT (xName 4) (xLst (xCons (xLst (xCons (xC (.int 6)) (xNil))) (xCons (xLst (xCons (xC (.int 7)) (xNil))) (xNil))))) (xRet (xLst (xCons (x2 ixT (xLst (xCons (xC (.str "TooDeep")) (xCons (xC (.str "TooBig")) (xNil)))) (x2 subT (x2 ixT (xName 4) (xC (.int 0))) (xC (.int 6)))) (xCons (xFld a d C "limit" (xName 2)) (xNil))))) (xNext))))))))) (xRet (xLst (xCons (xC (.str "other")) (xCons (xC .non) (xNil)))))
/-- _law_due: slots 0 heads, 1 ends, 2 n, 3 reduct, 4 new, 5 level -/
def x__law_due (g__law_tree : PF) (g__law_term : PF) : XS := xSeq (xIfS (x2T eqT (xB ((un1 lenT)) (xCons (xName 3) (xNil))) (xC (.int 0))) (xRet (xLst (xCons (xC (.str "NotThere")) (xCons (xName 2) (xNil))))) (xNext)) (xSeq (xAsg (x2 addT (x2 addT (xSl (xName 0) (xNoP) (xPart (xName 2))) (xName 3)) (xSl (xName 0) (xPart (x2 ixT (xName 1) (xName 2))) (xNoP))) (gN 4)) (xSeq (xIfS (xTru (xB ((un1 (boolsT fun bs => bs.any id))) (xCons (xLc (xSeqI (x2 ixT (xCall g__law_tree (xCons (xName 4) (xNil))) (xC (.int 1)))) (gN 5) (xYes) (x2 (gB (intT fun i j => decide (j < i))) (xName 5) (xC (.int 40))) [5]) (xNil)))) (xRet (xLst (xCons (xC (.str "TooDeep")) (xCons (xC (.int 40)) (xNil))))) (xNext)) (xSeq (xIfS (x2T (intT fun i j => decide (j < i)) (xB ((un1 lenT)) (xCons (xName 4) (xNil))) (xC (.int 300))) (xRet (xLst (xCons (xC (.str "TooBig")) (xCons (xC (.int 300)) (xNil))))) (xNext)) (xRet (xLst (xCons (xC (.str "answer")) (xCons (xCall g__law_term (xCons (xName 4) (xNil))) (xNil))))))))
/-- law: slots 0 script, 1 store, 2 names, 3 turn, 4 words, 5 heads, 6 size, 7 tree, 8 term, 9 reducts, 10 n, 11 found, 12 nodes, 13 dues, 14 lost, 15 told -/
def x_law (g__law_store : PF) (g__law_letters : IF) (g__law_take : IF) (g__law_bound_heads : IF) (g__law_amount : IF) (g__law_some_heads : IF) (g__law_wrapped : IF) (g__law_tree : PF) (g__law_term : PF) (g__law_reduct : PF) (g__law_due : PF) (g_redexes : PF) (g__law_same : PF) (g__law_told : PF) : XS := xSeq (xAsg (xCall g__law_store (xCons (xName 0) (xNil))) (gN 1)) (xSeq (xAsg (xLc (xRng1 (xCons (xC (.int 2)) (xNil))) (gN 3) (xYes) (xCallI 1 g__law_letters (xCons (x2 addT (xC (.int 1)) (xCallI 1 g__law_take (xCons (xC (.int 8)) (xNil)))) (xNil))) [3]) (gN 2)) (xSeq (xExp (xApp 2 (xCons (xIxN 2 (xCallI 1 g__law_take (xCons (xC (.int 2)) (xNil)))) (xNil)))) (xSeq (xAsg (xLst (xCons (xIxN 2 (xC (.int 0))) (xCons (xCallI 1 g__law_letters (xCons (x2 addT (xC (.int 1)) (xCallI 1 g__law_take (xCons (xC (.int 8)) (xNil)))) (xNil))) (xNil)))) (gN 4)) (xSeq (xIfS (x2T eqT (xCallI 1 g__law_take (xCons (xC (.int 5)) (xNil))) (xC (.int 4))) (xAsg (xCallI 1 g__law_bound_heads (xCons (xIxN 2 (xC (.int 0))) (xNil))) (gN 5)) (xSeq (xAsg (x2 ixT (xLst (xCons (xCallI 1 g__law_amount (xCons (xC (.int 1)) (xCons (xC (.int 10)) (xNil)))) (xCons (xC (.int 60)) (xNil)))) (xB ((un1 toIntT)) (xCons (x2 (gB eqT) (xCallI 1 g__law_take (xCons (xC (.int 6)) (xNil))) (xC (.int 5))) (xNil)))) (gN 6)) (xSeq (xAsg (xCallI 1 g__law_some_heads (xCons (xName 2) (xCons (xName 4) (xCons (xName 4) (xCons (xLst (xCons (xC (.str "a")) (xCons (xC (.str "b07")) (xNil)))) (xCons (xName 6) (xCons (xC (.int 12)) (xCons (x2 (gB eqT) (xCallI 1 g__law_take (xCons (xC (.int 2)) (xNil))) (xC (.int 1))) (xNil))))))))) (gN 5)) (xFor (xRng1 (xCons (x2 addT (xC (.int 1)) (xCallI 1 g__law_take (xCons (xC (.int 5)) (xNil)))) (xNil))) (gN 3) (xAsg (xCallI 1 g__law_wrapped (xCons (xName 5) (xCons (xName 2) (xCons (xName 4) (xNil))))) (gN 5)))))) (xSeq (xAsg (xCall g__law_tree (xCons (xName 5) (xNil))) (gN 7)) (xSeq (xAsg (xCall g__law_term (xCons (xName 5) (xNil))) (gN 8)) (xSeq (xAsg (xLc (xRng1 (xCons (xB ((un1 lenT)) (xCons (xName 5) (xNil))) (xNil))) (gN 10) (xYes) (xCall g__law_reduct (xCons (xName 5) (xCons (xName 7) (xCons (xName 10) (xNil))))) [10]) (gN 9)) (xSeq (xAsg (xLc (xRng1 (xCons (xB ((un1 lenT)) (xCons (xName 5) (xNil))) (xNil))) (gN 10) (x2T (intT fun i j => decide (j < i)) (xB ((un1 lenT)) (xCons (x2 ixT (xName 9) (xName 10)) (xNil))) (xC (.int 0))) (xName 10) [10]) (gN 11)) (xSeq (xAsg (xListRg (xB ((un1 lenT)) (xCons (xName 5) (xNil)))) (gN 12)) (xSeq (xIfS (x2T (intT fun i j => decide (j < i)) (xB ((un1 lenT)) (xCons (xName 5) (xNil))) (xC (.int 30))) (xAsg (x2 addT (xSl (xName 11) (xNoP) (xPart (xC (.int 12)))) (xLc (xRng1 (xCons (xC (.int 8)) (xNil))) (gN 3) (xYes) (xCallI 1 g__law_take (xCons (xB ((un1 lenT)) (xCons (xName 5) (xNil))) (xNil))) [3])) (gN 12)) (xNext)) (xSeq (xAsg (xLc (xSeqI (xName 12)) (gN 10) (xYes) (xCall g__law_due (xCons (xName 5) (xCons (x2 ixT (xName 7) (xC (.int 3))) (xCons (xName 10) (xCons (x2 ixT (xName 9) (xName 10)) (xNil)))))) [10]) (gN 13)) (xSeq (xAsg (xLst (xCons (xB ((un1 lenT)) (xCons (xName 5) (xNil))) (xCons (xNeg (xC (.int 1))) (xCons (xNeg (xB ((un1 lenT)) (xCons (xName 5) (xNil)))) (xCons (x2 addT (xB ((un1 lenT)) (xCons (xName 5) (xNil))) (xC (.int 300))) (xCons (xC (.int 999999999999)) (xCons (xNeg (xC (.int 999999999999))) (xNil)))))))) (gN 14)) (xSeq (xFor (xRng1 (xCons (xC (.int 2)) (xNil))) (gN 3) (xSeq (xAsg (xCall g_redexes (xCons (xName 8) (xNil))) (gN 15)) (xSeq (xIfS (xBorT (xNot (xTru (xCall g__law_same (xCons (xName 15) (xCons (xName 11) (xNil))))))) (xRet (xC (.bl false))) (xNext)) (xSeq (xExp (xApp 15 (xCons (xC (.int 0)) (xNil)))) (xSeq (xIfS (xNot (xTru (xCall g__law_same (xCons (xLc (xSeqI (xName 12)) (gN 10) (xYes) (xCall g__law_told (xCons (xName 8) (xCons (xName 10) (xNil)))) [10]) (xCons (xName 13) (xNil)))))) (xRet (xC (.bl false))) (xNext)) (xIfS (xNot (xTru (xCall g__law_same (xCons (xLc (xSeqI (xName 14)) (gN 10) (xYes) (xCall g__law_told (xCons (xName 8) (xCons (xName 10) (xNil)))) [10]) (xCons (xLc (xSeqI (xName 14)) (gN 10) (xYes) (xLst (xCons (xC (.str "NotThere")) (xCons (xName 10) (xNil)))) [10]) (xNil)))))) (xRet (xC (.bl false))) (xNext))))))) (xRet (xCall g__law_same (xCons (xName 8) (xCons (xCall g__law_term (xCons (xName 5) (xNil))) (xNil))))))))))))))))))
end Rd
end TL

set_option maxHeartbeats 2000000
/-! the law's helpers that draw numbers from the script -/
namespace TL
open PySem PySem.Spec PyProof.Rows L2
namespace Rd
def sOk (s : Str) : Prop := PyData.strOk s = true
@[simp] theorem ots_take (l : List O) (n : Nat) : O.ts (l.take n) = (O.ts l).take n := by rw [O.ts_map, O.ts_map, List.map_take]
def g__law_mixed : GT := fun ts K _ => ∃ i : Int, ts = [.int i] ∧ ∀ j : Int, 0 ≤ j → j < 2305843009213693951 → K (.sh (.int j))
theorem cmul_r {i j : Int} (h : -(2 ^ 64) < j) (h2 : j < 2 ^ 64) : CMul i j ∨ CMulW i j := .inl (.inr ⟨h, h2⟩)
theorem pl__law_mixed (ts : List T) (K0 : O → Prop) (Z0 : ZX) (h : g__law_mixed ts K0 Z0) : x__law_mixed (endP K0 Z0) (slots 1 ts) := by
  obtain ⟨i, rfl, hk⟩ := h
  unfold x__law_mixed
  have cd : ∀ i : Int, CDivW i 1073741824 := fun i => ⟨by decide, by decide⟩
  have cd2 : ∀ i : Int, CDivW i 536870912 := fun i => ⟨by decide, by decide⟩
  simp [cd, cd2]
  refine ⟨cmul_r (by decide) (by decide), ?_⟩
  generalize hn : (i * 7046029254386353 + 1442695040888963) % 2305843009213693951 = n
  have n0 : 0 ≤ n := by rw [← hn]; exact Int.emod_nonneg _ (by decide)
  have n1 : n < 2305843009213693951 := by rw [← hn]; exact Int.emod_lt_of_pos _ (by decide)
  refine ⟨cmul_r (by omega) (by omega), cmul_r (by decide) (by decide), cmul_r (by decide) (by decide), ?_⟩
  exact hk _ (Int.emod_nonneg _ (by decide)) (Int.emod_lt_of_pos _ (by decide))
/-- the store -/
def sto (cells : List Int) (p n l c b s : Int) : O := .lst [.sh (.lst (cells.map .int)), .sh (.int p), .sh (.int n), .sh (.int l), .sh (.int c), .sh (.int b), .sh (.int s)]
def StoreOk (o : O) : Prop := ∃ cells p n l c b s, o = sto cells p n l c b s ∧ 0 ≤ p ∧ 0 ≤ n
@[simp] theorem v_sl_kls (ts : List T) (lo hi : Option Int) (Q : O → Prop) : sliE (.kls ts) lo hi (c := ⟨Q⟩) = Q (.lst ((cutL ts lo hi).map .sh)) := rfl
def g__law_store : GT := fun ts K _ => ∃ cells : List Int, ts = [.kls (cells.map .int)] ∧ ∀ o, StoreOk o → K o
theorem pl__law_store (ts : List T) (K0 : O → Prop) (Z0 : ZX) (h : g__law_store ts K0 Z0) : x__law_store g__law_mixed.pf (endP K0 Z0) (slots 4 ts) := by
  obtain ⟨cells, rfl, hk⟩ := h
  unfold x__law_store
  simp
  refine lcI ?_
  simp
  have e63 : cutL (cells.map T.int) none (some 63) = (cells.take 63).map .int := by rw [show (63 : Int) = ((63 : Nat) : Int) from rfl, cutL_to, List.map_take]
  rw [e63]
  refine compMap (f := O.sh) rfl (by simp; omega) ?_ fun t ht C E hE => ?_
  · simp
    refine foI ?_
    simp
    refine forI (fun i ρ => ∃ (b : Int) (x2 : Option O), ρ = [some (.sh (.kls (cells.map .int))), some (.sh (.lst ((cells.take 63).map .int))), x2, some (.sh (.int b))]) ⟨1000003 + ((min 63 cells.length : Nat) : Int), none, by simp⟩ ?_ ?_
    · rintro i u ρ hu ⟨b, x2, rfl⟩
      obtain ⟨c, hc, rfl⟩ : ∃ c : Int, c ∈ cells ∧ .int c = u := by
        have := List.mem_of_mem_take (List.mem_of_getElem? hu)
        obtain ⟨c, hc, e⟩ := List.mem_map.mp this
        exact ⟨c, hc, by simpa using e⟩
      simp
      refine ⟨cmul_r (by decide) (by decide), _, rfl, fun j _ _ => ?_⟩
      simp
    · rintro ρ ⟨b, x2, rfl⟩
      simp
      exact hk _ ⟨cells.take 63, 0, 0, 0, 0, b, 0, by simp [sto], by decide, by decide⟩
  · obtain ⟨c, hc, rfl⟩ := List.mem_map.mp ht
    simp
    exact hE _ rfl
def g__law_advance : GI := fun o ts K _ => ∃ cells p n l c b s, o = sto cells p n l c b s ∧ 0 ≤ p ∧ p < cells.length ∧ ts = [] ∧ ∀ o', StoreOk o' → K (.sh .non) o'
theorem pl__law_advance (v0 : V) (o : O) (ts : List T) (K0 : O → O → Prop) (Z0 : ZX) (h : g__law_advance o ts K0 Z0) : x__law_advance (endI v0 K0 Z0) (some (.io v0 o) :: slots 1 ts) := by
  obtain ⟨cells, p, n, l, c, b, s, rfl, hp, hpl, rfl, hk⟩ := h
  obtain ⟨q, rfl⟩ : ∃ q : Nat, p = q := ⟨p.toNat, by omega⟩
  obtain ⟨x, hx⟩ : ∃ x, cells[q]? = some x := ⟨cells[q], List.getElem?_eq_getElem (by omega)⟩
  unfold x__law_advance
  have i1 : (0 : Int) ≤ 18 ∧ (Builtin.Int.intBits 10 : Int) * 18 ≤ 2 ^ 27 := by decide
  have i2 : (Builtin.Int.intBits 10 : Int) * 18 ≤ 134217728 := by decide
  have i3 : (Builtin.Int.intBits 10 : Int) * 60 ≤ 134217728 := by decide
  have i4 : (Builtin.Int.intBits 1000000000000000000000000000000000000000000000000000000000000 : Int) * 7 ≤ 134217728 := by decide +kernel
  simp [sto, hx, ixN, i2, i3, i4]
  have m0 : ∀ y z : Int, 0 < z → 0 ≤ y % z := fun y z hz => Int.emod_nonneg _ (by omega)
  generalize decide (1000000000000000000 ≤ if x < 0 then -x else x) = bb
  cases bb with
  | true =>
    simp [ixN, i2, i3, i4]
    exact hk _ ⟨cells, q + 1, _, 60, c, b, _, rfl, by omega, m0 _ _ (by decide)⟩
  | false =>
    simp
    exact hk _ ⟨cells, q + 1, 0, 4, c, b, _, rfl, by omega, by decide⟩
/-- the end of _law_take -/
def tk_rest (g__law_mixed : PF) : XS := xSeq (xAsg (x2 addT (xIxN 0 (xC (.int 4))) (xC (.int 1))) (gIxN 0 (xC (.int 4)))) (xSeq (xAsg (xB ((un1 toIntT)) (xCons (xIxN 0 (xC (.int 2))) (xNil))) (gN 2)) (xSeq (xIfS (xBorT (x2T eqT (x2 ixT (xName 0) (xC (.int 3))) (xC (.int 0)))) (xSeq (xAsg (xC (.int 0)) (gN 2)) (xAsg (xC (.int 0)) (gIxN 0 (xC (.int 6))))) (xAsg (x2 subT (xIxN 0 (xC (.int 3))) (xC (.int 1))) (gIxN 0 (xC (.int 3))))) (xSeq (xIfS (x2T (intT fun i j => decide (j < i)) (xName 2) (xC (.int 0))) (xSeq (xAsg (x2 divT (xName 2) (xName 1)) (gIxN 0 (xC (.int 2)))) (xSeq (xIfS (xBorT (x2T eqT (x2 ixT (xName 0) (xC (.int 2))) (xC (.int 0)))) (xAsg (xC (.int 0)) (gIxN 0 (xC (.int 3)))) (xNext)) (xRet (x2 modT (xB ((un1 toIntT)) (xCons (xName 2) (xNil))) (xName 1))))) (xNext)) (xSeq (xAsg (xIxN 0 (xC (.int 6))) (gN 3)) (xRet (x2 modT (xB ((un1 toIntT)) (xCons (xCall g__law_mixed (xCons (x2 addT (xCall g__law_mixed (xCons (x2 addT (x2 addT (xIxN 0 (xC (.int 5))) (x2 mulT (xName 3) (xC (.int 3)))) (x2 mulT (xIxN 0 (xC (.int 4))) (xC (.int 104729)))) (xNil))) (xName 3)) (xNil))) (xNil))) (xName 1)))))))
theorem pl_tk_rest (v0 : V) (K0 : O → O → Prop) (Z0 : ZX) (many : Int) (hm : many < 2 ^ 60) (h2 : ¬ many < 2) (hk : ∀ k o', StoreOk o' → 0 ≤ k → k < many → K0 (.sh (.int k)) o') (cells : List Int) (p n l c b s : Int) (hp : 0 ≤ p) (hn : 0 ≤ n) :
    tk_rest g__law_mixed.pf (endI v0 K0 Z0) [some (.io v0 (sto cells p n l c b s)), some (.sh (.int many)), none, none] := by
  have cd : ∀ i : Int, CDivW i many := fun i => by
    refine ⟨by omega, ?_⟩
    have : many.natAbs < 2 ^ 60 := by omega
    have := Nat.log2_lt (n := many.natAbs) (k := 60) (by omega) |>.mpr this
    omega
  have mp : (0 : Int) < many := by omega
  have mix : ∀ (l' s' : Int), tk_rest g__law_mixed.pf = tk_rest g__law_mixed.pf := fun _ _ => rfl
  unfold tk_rest
  simp [sto, ixN]
  by_cases hl : l = 0
  · simp [hl, ixN]
    refine ⟨cmul_r (by decide) (by decide), cmul_r (by decide) (by decide), _, rfl, fun j j0 j1 => ?_⟩
    simp
    refine ⟨_, rfl, fun k k0 k1 => ?_⟩
    simp [mp]
    exact hk _ _ ⟨cells, p, n, 0, c + 1, b, 0, rfl, hp, hn⟩ (Int.emod_nonneg _ (by omega)) (Int.emod_lt_of_pos _ mp)
  · simp [hl, ixN]
    by_cases n0 : 0 < n
    · simp [n0, cd, ixN]
      by_cases q : n / many = 0
      · simp [q, ixN, mp]
        exact hk _ _ ⟨cells, p, 0, 0, c + 1, b, s, rfl, hp, by decide⟩ (Int.emod_nonneg _ (by omega)) (Int.emod_lt_of_pos _ mp)
      · simp [q, mp]
        exact hk _ _ ⟨cells, p, n / many, l - 1, c + 1, b, s, rfl, hp, Int.ediv_nonneg hn (by omega)⟩ (Int.emod_nonneg _ (by omega)) (Int.emod_lt_of_pos _ mp)
    · simp [n0]
      refine ⟨cmul_r (by decide) (by decide), cmul_r (by decide) (by decide), _, rfl, fun j j0 j1 => ?_⟩
      simp
      refine ⟨_, rfl, fun k k0 k1 => ?_⟩
      simp [mp]
      exact hk _ _ ⟨cells, p, n, l - 1, c + 1, b, s, rfl, hp, hn⟩ (Int.emod_nonneg _ (by omega)) (Int.emod_lt_of_pos _ mp)
def g__law_take : GI := fun o ts K _ => StoreOk o ∧ ∃ many : Int, ts = [.int many] ∧ many < 2 ^ 60 ∧ ∀ k o', StoreOk o' → 0 ≤ k → (k < many ∨ (many < 2 ∧ k = 0)) → K (.sh (.int k)) o'
theorem pl__law_take (v0 : V) (o : O) (ts : List T) (K0 : O → O → Prop) (Z0 : ZX) (h : g__law_take o ts K0 Z0) : x__law_take g__law_advance.pf g__law_mixed.pf (endI v0 K0 Z0) (some (.io v0 o) :: slots 3 ts) := by
  obtain ⟨⟨cells, p, n, l, c, b, s, rfl, hp, hn⟩, many, rfl, hm, hk⟩ := h
  have rest := fun h2 => pl_tk_rest v0 K0 Z0 many hm h2 fun k o' h1 h3 h4 => hk k o' h1 h3 (.inl h4)
  change (xSeq (xIfS (x2T (intT fun i j => decide (i < j)) (xName 1) (xC (.int 2))) (xRet (xC (.int 0))) (xNext)) (xSeq (xIfS (xBorT (xAnd (x2T eqT (x2 ixT (xName 0) (xC (.int 3))) (xC (.int 0))) (x2T (intT fun i j => decide (i < j)) (x2 ixT (xName 0) (xC (.int 1))) (xB ((un1 lenT)) (xCons (x2 ixT (xName 0) (xC (.int 0))) (xNil)))))) (xExp (xCallI 0 g__law_advance.pf (xNil))) (xNext)) (tk_rest g__law_mixed.pf))) (endI v0 K0 Z0) _
  simp [sto]
  by_cases h2 : many < 2
  · simp [h2]
    exact hk 0 _ ⟨cells, p, n, l, c, b, s, rfl, hp, hn⟩ (Int.le_refl _) (.inr ⟨h2, rfl⟩)
  · simp [h2]
    by_cases hl : l = 0
    · simp [hl]
      by_cases hpl : p < cells.length
      · simp [hpl]
        refine ⟨cells, p, n, l, c, b, s, rfl, hp, hpl, rfl, ?_⟩
        rintro o' ⟨cells', p', n', l', c', b', s', rfl, hp', hn'⟩
        simp
        exact rest h2 _ _ _ _ _ _ _ hp' hn'
      · simp [hpl]
        exact rest h2 _ _ _ _ _ _ _ hp hn
    · simp [hl]
      exact rest h2 _ _ _ _ _ _ _ hp hn
end Rd
end TL

set_option maxHeartbeats 2000000
namespace TL
open PySem PySem.Spec PyProof.Rows L2
namespace Rd
@[simp] theorem v_ix_str (z : Str) (i : Int) (Q : O → Prop) : op2E ixT (.str z) (.int i) (c := ⟨Q⟩) = (z.length ≤ sizeLine ∧ optE (atI z.cps.toList i) (c := ⟨fun c => Q (.sh (.str ⟨#[c]⟩))⟩)) := by
  unfold op2E optE
  dsimp only [ixT]
  cases atI z.cps.toList i <;> rfl
/-- a list or a tuple of these trees -/
def isSeq (t : T) (xs : List T) : Prop := t = .lst xs ∨ t = .tup xs
def g__law_pick : GI := fun o ts K _ => StoreOk o ∧ ∃ (t : T) (xs : List T), ts = [t] ∧ isSeq t xs ∧ xs ≠ [] ∧ xs.length ≤ 1000000 ∧ ∀ x ∈ xs, ∀ o', StoreOk o' → K (.sh x) o'
theorem pl__law_pick (v0 : V) (o : O) (ts : List T) (K0 : O → O → Prop) (Z0 : ZX) (h : g__law_pick o ts K0 Z0) : x__law_pick g__law_take.pf (endI v0 K0 Z0) (some (.io v0 o) :: slots 1 ts) := by
  obtain ⟨ho, t, xs, rfl, hs, hne, hl, hk⟩ := h
  have hpos : 0 < xs.length := List.length_pos_iff.mpr hne
  have go : ∀ (k : Int) (o' : O), 0 ≤ k → (k < (xs.length : Int) ∨ ((xs.length : Int) < 2 ∧ k = 0)) → ∃ m x, k = (m : Nat) ∧ xs[m]? = some x ∧ x ∈ xs := fun k o' h0 h1 => by
    have : k.toNat < xs.length := by omega
    exact ⟨k.toNat, xs[k.toNat], by omega, List.getElem?_eq_getElem this, List.getElem_mem this⟩
  have hoc := ho
  obtain ⟨cells, p, n, l, c, b, s, rfl, hp, hn⟩ := hoc
  unfold x__law_pick
  rcases hs with rfl | rfl
  · simp
    refine ⟨ho, _, rfl, by omega, fun k o' ho' h0 h1 => ?_⟩
    obtain ⟨m, x, rfl, hx, hm⟩ := go k o' h0 h1
    simp [hx]
    exact hk x hm o' ho'
  · simp
    refine ⟨ho, _, rfl, by omega, fun k o' ho' h0 h1 => ?_⟩
    obtain ⟨m, x, rfl, hx, hm⟩ := go k o' h0 h1
    simp [hx]
    exact hk x hm o' ho'
def g__law_amount : GI := fun o ts K _ => StoreOk o ∧ ∃ lo hi : Int, ts = [.int lo, .int hi] ∧ hi - lo < 2 ^ 50 ∧ ∀ k o', StoreOk o' → lo ≤ k → (k ≤ hi ∨ k = lo) → K (.sh (.int k)) o'
theorem pl__law_amount (v0 : V) (o : O) (ts : List T) (K0 : O → O → Prop) (Z0 : ZX) (h : g__law_amount o ts K0 Z0) : x__law_amount g__law_take.pf (endI v0 K0 Z0) (some (.io v0 o) :: slots 3 ts) := by
  obtain ⟨ho, lo, hi, rfl, hd, hk⟩ := h
  unfold x__law_amount
  have hoc := ho
  obtain ⟨cells, p, n, l, c, b, s, rfl, hp, hn⟩ := hoc
  simp
  by_cases h1 : hi ≤ lo
  · simp [h1]
    exact hk lo _ ho (Int.le_refl _) (.inr rfl)
  · simp [h1]
    refine ⟨ho, 6, rfl, by decide, fun k o1 ho1 h0 _ => ?_⟩
    simp
    by_cases k0 : k = 0
    · simp [k0]
      exact hk lo _ ho1 (Int.le_refl _) (.inr rfl)
    · simp [k0]
      by_cases k1 : k = 1
      · simp [k1]
        exact hk hi _ ho1 (by omega) (.inl (Int.le_refl _))
      · simp [k1]
        refine ⟨ho1, hi - lo + 1, rfl, by omega, fun m o2 ho2 m0 m1 => ?_⟩
        simp
        exact hk _ _ ho2 (by omega) (.inl (by omega))
/-! how many values stand in a tree (what _law_same pops) -/
mutual
def _root_.TL.T.nn : T → Nat
  | .tup xs => 1 + T.nns xs
  | .lst xs => 1 + T.nns xs
  | _ => 1
def _root_.TL.T.nns : List T → Nat
  | [] => 0
  | x :: xs => T.nn x + T.nns xs
end
@[simp] theorem nn_tup (xs : List T) : T.nn (.tup xs) = 1 + T.nns xs := by simp [T.nn]
@[simp] theorem nn_lst (xs : List T) : T.nn (.lst xs) = 1 + T.nns xs := by simp [T.nn]
@[simp] theorem nn_str (s : Str) : T.nn (.str s) = 1 := by simp [T.nn]
@[simp] theorem nn_int (s : Int) : T.nn (.int s) = 1 := by simp [T.nn]
@[simp] theorem nn_non : T.nn .non = 1 := by simp [T.nn]
@[simp] theorem nn_bl (b : Bool) : T.nn (.bl b) = 1 := by simp [T.nn]
@[simp] theorem nns_nil : T.nns [] = 0 := by simp [T.nns]
@[simp] theorem nns_cons (x : T) (xs : List T) : T.nns (x :: xs) = T.nn x + T.nns xs := by simp [T.nns]
@[simp] theorem nns_app : ∀ xs ys : List T, T.nns (xs ++ ys) = T.nns xs + T.nns ys
  | [], ys => by simp
  | x :: xs, ys => by simp [nns_app xs ys, Nat.add_assoc]
/-! plain values -/
mutual
def _root_.TL.T.pl : T → Bool
  | .non => true
  | .bl _ => true
  | .int _ => true
  | .str x => PyData.strOk x
  | .tup xs => T.pls xs
  | .lst xs => T.pls xs
  | _ => false
def _root_.TL.T.pls : List T → Bool
  | [] => true
  | x :: xs => T.pl x && T.pls xs
end
@[simp] theorem pl_non : T.pl .non = true := by simp [T.pl]
@[simp] theorem pl_bl (b : Bool) : T.pl (.bl b) = true := by simp [T.pl]
@[simp] theorem pl_int (i : Int) : T.pl (.int i) = true := by simp [T.pl]
@[simp] theorem pl_str (s : Str) : T.pl (.str s) = PyData.strOk s := by simp [T.pl]
@[simp] theorem pl_tup (xs : List T) : T.pl (.tup xs) = T.pls xs := by simp [T.pl]
@[simp] theorem pl_lst (xs : List T) : T.pl (.lst xs) = T.pls xs := by simp [T.pl]
@[simp] theorem pls_nil : T.pls [] = true := by simp [T.pls]
@[simp] theorem pls_cons (x : T) (xs : List T) : T.pls (x :: xs) = (T.pl x && T.pls xs) := by simp [T.pls]
theorem app_len (a b : Str) : (a ++ b).length = a.length + b.length := by
  show (a.cps ++ b.cps).size = _
  rw [Array.size_append]
  rfl
theorem app_ok {a b : Str} (ha : sOk a) (hb : sOk b) : sOk (a ++ b) := by
  unfold sOk PyData.strOk at ha hb ⊢
  show (a.cps ++ b.cps).all _ = true
  rw [Array.all_append, ha, hb]
  rfl
end Rd
end TL

set_option maxHeartbeats 2000000
namespace TL
open PySem PySem.Spec PyProof.Rows L2
namespace Rd
/-! terms of the small language as trees -/
inductive Hd where
  | con (w : Str) | nam (x : Str) | hol | use (w : Str) | fn (x : Str) | app | pr | lft | rgt | sel | uns | note (f : T) | pick (k : Str)
inductive Tm where
  | nd (h : Hd) (ps : List Tm)
def Hd.ar : Hd → Nat
  | .con _ | .nam _ | .hol | .use _ => 0
  | .app | .pr => 2
  | .pick _ => 3
  | _ => 1
def Hd.pre : Hd → List T
  | .con w => [.str "const", .str w]
  | .nam x => [.str "name", .str x]
  | .hol => [.str "hole"]
  | .use w => [.str "use", .str w]
  | .fn x => [.str "fn", .str x]
  | .app => [.str "call"]
  | .pr => [.str "pair"]
  | .lft => [.str "left"]
  | .rgt => [.str "right"]
  | .sel => [.str "seal"]
  | .uns => [.str "unseal"]
  | .note _ => [.str "note"]
  | .pick k => [.str "pick", .str k]
def Hd.post : Hd → List T
  | .note f => [f]
  | _ => []
/-- the law's head -/
def Hd.t (h : Hd) : T := .tup (h.pre ++ h.post)
def Hd.good : Hd → Prop
  | .con w | .nam w | .use w | .fn w | .pick w => sOk w
  | .note f => f.isD = true ∧ f.d.depth ≤ 20 ∧ f.nn ≤ 25 ∧ f.pl = true
  | _ => True
mutual
def Tm.T : Tm → T
  | .nd h ps => .tup (h.pre ++ Tms.T ps ++ h.post)
def Tms.T : List Tm → List TL.T
  | [] => []
  | p :: ps => p.T :: Tms.T ps
end
mutual
def Tm.ok : Tm → Prop
  | .nd h ps => ps.length = h.ar ∧ h.good ∧ Tms.ok ps
def Tms.ok : List Tm → Prop
  | [] => True
  | p :: ps => p.ok ∧ Tms.ok ps
end
mutual
def Tm.sz : Tm → Nat
  | .nd _ ps => 1 + Tms.sz ps
def Tms.sz : List Tm → Nat
  | [] => 0
  | p :: ps => p.sz + Tms.sz ps
end
def Tm.ps : Tm → List Tm
  | .nd _ ps => ps
def Tm.hd : Tm → Hd
  | .nd h _ => h
@[simp] theorem tms_nil : Tms.T [] = [] := rfl
@[simp] theorem tms_cons (p : Tm) (ps : List Tm) : Tms.T (p :: ps) = p.T :: Tms.T ps := rfl
@[simp] theorem tms_len : ∀ ps : List Tm, (Tms.T ps).length = ps.length
  | [] => rfl
  | p :: ps => by simp [tms_len ps]
theorem tms_map : ∀ ps : List Tm, Tms.T ps = ps.map Tm.T
  | [] => rfl
  | p :: ps => by simp [tms_map ps]
theorem tms_app (ps qs : List Tm) : Tms.T (ps ++ qs) = Tms.T ps ++ Tms.T qs := by simp [tms_map]
@[simp] theorem sz_nil : Tms.sz [] = 0 := rfl
@[simp] theorem sz_cons (p : Tm) (ps : List Tm) : Tms.sz (p :: ps) = p.sz + Tms.sz ps := rfl
@[simp] theorem sz_nd (h : Hd) (ps : List Tm) : Tm.sz (.nd h ps) = 1 + Tms.sz ps := rfl
theorem sz_app : ∀ ps qs : List Tm, Tms.sz (ps ++ qs) = Tms.sz ps + Tms.sz qs
  | [], qs => by simp
  | p :: ps, qs => by simp [sz_app ps qs, Nat.add_assoc]
theorem sz_pos : ∀ t : Tm, 0 < t.sz
  | .nd h ps => by simp; omega
@[simp] theorem ps_nd (h : Hd) (ps : List Tm) : Tm.ps (.nd h ps) = ps := rfl
@[simp] theorem hd_nd (h : Hd) (ps : List Tm) : Tm.hd (.nd h ps) = h := rfl
theorem ok_nd {h : Hd} {ps : List Tm} : Tm.ok (.nd h ps) ↔ ps.length = h.ar ∧ h.good ∧ Tms.ok ps := by rw [Tm.ok]
theorem oks_iff : ∀ {ps : List Tm}, Tms.ok ps ↔ ∀ p ∈ ps, p.ok
  | [] => by simp [Tms.ok]
  | p :: ps => by simp [Tms.ok, oks_iff (ps := ps)]
theorem len0 {α : Type} {l : List α} (h : l.length = 0) : l = [] := List.eq_nil_of_length_eq_zero h
theorem len1 {α : Type} {l : List α} (h : l.length = 1) : ∃ a, l = [a] := List.length_eq_one_iff.mp h
theorem len2 {α : Type} {l : List α} (h : l.length = 2) : ∃ a b, l = [a, b] := by match l, h with | [a, b], _ => exact ⟨a, b, rfl⟩
theorem len3 {α : Type} {l : List α} (h : l.length = 3) : ∃ a b c, l = [a, b, c] := by match l, h with | [a, b, c], _ => exact ⟨a, b, c, rfl⟩

def Hd.w : Hd → String
  | .con _ => "const"
  | .nam _ => "name"
  | .hol => "hole"
  | .use _ => "use"
  | .fn _ => "fn"
  | .app => "call"
  | .pr => "pair"
  | .lft => "left"
  | .rgt => "right"
  | .sel => "seal"
  | .uns => "unseal"
  | .note _ => "note"
  | .pick _ => "pick"
@[simp] theorem ix_word (h : Hd) (ps : List Tm) (Q : O → Prop) : op2E ixT (Tm.nd h ps).T (.int 0) (c := ⟨Q⟩) = Q (.sh (.str (Str.ofString h.w))) := by
  cases h <;> simp [Tm.T, Hd.pre, Hd.w]
@[simp] theorem ix_fn1 (x : Str) (ps : List Tm) (Q : O → Prop) : op2E ixT (Tm.nd (.fn x) ps).T (.int 1) (c := ⟨Q⟩) = Q (.sh (.str x)) := by simp [Tm.T, Hd.pre]
@[simp] theorem ix_nam1 (x : Str) (ps : List Tm) (Q : O → Prop) : op2E ixT (Tm.nd (.nam x) ps).T (.int 1) (c := ⟨Q⟩) = Q (.sh (.str x)) := by simp [Tm.T, Hd.pre]
theorem w_fn {h : Hd} : h.w = "fn" ↔ ∃ x, h = .fn x := by cases h <;> simp [Hd.w]
theorem w_nam {h : Hd} : h.w = "name" ↔ ∃ x, h = .nam x := by cases h <;> simp [Hd.w]
/-! parts_of, rebuilt -/
def g_parts_of : GT := fun ts K _ => ∃ t : Tm, ts = [t.T] ∧ t.ok ∧ K (.sh (.tup (Tms.T t.ps)))
theorem pl_parts_of (ts : List T) (K0 : O → Prop) (Z0 : ZX) (h : g_parts_of ts K0 Z0) : x_parts_of (endP K0 Z0) (slots 2 ts) := by
  obtain ⟨⟨h, ps⟩, rfl, ok, hk⟩ := h
  obtain ⟨hl, hg, -⟩ := ok_nd.mp ok
  rw [ps_nd] at hk
  unfold x_parts_of
  cases h with
  | con w | nam w | hol | use w =>
    obtain rfl := len0 hl
    simpa [Tm.T, Hd.pre, Hd.post] using hk
  | note f =>
    obtain ⟨a, rfl⟩ := len1 hl
    simpa [Tm.T, Hd.pre, Hd.post] using hk
  | _ => simpa [Tm.T, Hd.pre, Hd.post] using hk
def g_rebuilt : GT := fun ts K _ => ∃ (h : Hd) (ps qs : List Tm), ts = [(Tm.nd h ps).T, .tup (Tms.T qs)] ∧ (Tm.nd h ps).ok ∧ qs.length = ps.length ∧ K (.sh (Tm.nd h qs).T)
theorem pl_rebuilt (ts : List T) (K0 : O → Prop) (Z0 : ZX) (h : g_rebuilt ts K0 Z0) : x_rebuilt (endP K0 Z0) (slots 3 ts) := by
  obtain ⟨h, ps, qs, rfl, ok, hq, hk⟩ := h
  obtain ⟨hl, hg, -⟩ := ok_nd.mp ok
  unfold x_rebuilt
  have hlq := hq.trans hl
  cases h with
  | con w | nam w | hol | use w =>
    obtain rfl := len0 hl
    obtain rfl := len0 hlq
    simpa [Tm.T, Hd.pre, Hd.post] using hk
  | app | pr =>
    obtain ⟨a, b, rfl⟩ := len2 hl
    obtain ⟨c, d, rfl⟩ := len2 hlq
    simpa [Tm.T, Hd.pre, Hd.post] using hk
  | pick k =>
    obtain ⟨a, b, c, rfl⟩ := len3 hl
    obtain ⟨d, e, f, rfl⟩ := len3 hlq
    simpa [Tm.T, Hd.pre, Hd.post] using hk
  | _ =>
    obtain ⟨a, rfl⟩ := len1 hl
    obtain ⟨c, rfl⟩ := len1 hlq
    simpa [Tm.T, Hd.pre, Hd.post] using hk
end Rd
end TL

set_option maxHeartbeats 2000000
namespace TL
open PySem PySem.Spec PyProof.Rows L2
namespace Rd
/-! walk -/
abbrev Sc := List (Str × Nat)
def Sc.T : Sc → T
  | [] => .non
  | (x, i) :: r => .tup [.str x, .int (i : Nat), Sc.T r]
abbrev Row := Tm × Nat × Sc
def Row.T (r : Row) : T := .tup [r.1.T, .int (r.2.1 : Nat), r.2.2.T]
def inn : Hd → Nat → Sc → Sc
  | .fn x, n, sc => (x, n) :: sc
  | _, _, sc => sc
mutual
def wk : Tm → Nat → Nat → Sc → List Row
  | .nd h ps, lv, n, sc => (.nd h ps, lv, sc) :: wks ps (lv + 1) (n + 1) (inn h n sc)
def wks : List Tm → Nat → Nat → Sc → List Row
  | [], _, _, _ => []
  | p :: ps, lv, n, sc => wk p lv n sc ++ wks ps lv (n + p.sz) sc
end
mutual
theorem wk_len : ∀ (t : Tm) (lv n : Nat) (sc : Sc), (wk t lv n sc).length = t.sz
  | .nd h ps, lv, n, sc => by simp [wk, wks_len ps]; omega
theorem wks_len : ∀ (ps : List Tm) (lv n : Nat) (sc : Sc), (wks ps lv n sc).length = Tms.sz ps
  | [], _, _, _ => rfl
  | p :: ps, lv, n, sc => by simp [wks, wk_len p, wks_len ps]
end
def stk : List Row → Nat → List Row
  | [], _ => []
  | (t, lv, sc) :: r, n => wk t lv n sc ++ stk r (n + t.sz)
theorem stk_app (ps : List Tm) (lv : Nat) (sc : Sc) (r : List Row) : ∀ n, stk (ps.map (fun p => (p, lv, sc)) ++ r) n = wks ps lv n sc ++ stk r (n + Tms.sz ps) := by
  induction ps with
  | nil => intro n; simp [wks]
  | cons p ps ih => intro n; simp [stk, wks, ih, Nat.add_assoc]
def rsz (st : List Row) : Nat := Tms.sz (st.map (·.1))
@[simp] theorem rowT_mk (p : Tm) (lv : Nat) (sc : Sc) : Row.T (p, lv, sc) = .tup [p.T, .int (lv : Nat), sc.T] := rfl
@[simp] theorem hd_at0 (h : Hd) (ps : List Tm) : ∃ w r, (Tm.nd h ps).T = .tup (.str w :: r) := by cases h <;> exact ⟨_, _, rfl⟩
def g_walk : GT := fun ts K _ => ∃ t : Tm, ts = [t.T] ∧ t.ok ∧ t.sz ≤ 1000000 ∧ K (.lst ((wk t 1 0 []).map fun r => .sh r.T))
theorem pl_walk (ts : List T) (K0 : O → Prop) (Z0 : ZX) (h : g_walk ts K0 Z0) : x_walk g_parts_of.pf (endP K0 Z0) (slots 8 ts) := by
  obtain ⟨t, rfl, ok, hsz, hk⟩ := h
  unfold x_walk
  simp
  refine whI (fun m ρ => ∃ (st done : List Row) (x3 x4 x5 x6 x7 : Option O), ρ = [some (.sh t.T), some (.lst (done.map fun r => .sh r.T)), some (.lst (st.reverse.map fun r => .sh r.T)), x3, x4, x5, x6, x7] ∧
    (∀ r ∈ st, r.1.ok) ∧ wk t 1 0 [] = done ++ stk st done.length ∧ m = rsz st) ⟨_, [(t, 1, [])], [], none, none, none, none, none, by simp [Row.T, Sc.T], by simpa using ok, by simp [stk], rfl⟩ ?_
  rintro m ρ ⟨st, done, x3, x4, x5, x6, x7, rfl, hok, hw, rfl⟩
  have hlen := congrArg List.length hw
  rw [wk_len, List.length_append] at hlen
  cases st with
  | nil =>
    simp [stk] at hw
    simp
    rw [hw] at hk
    exact hk
  | cons r st =>
    obtain ⟨p, lv, sc⟩ := r
    obtain ⟨h, ps⟩ := p
    have okp : (Tm.nd h ps).ok := hok _ List.mem_cons_self
    have fin : (∃ x, h = .fn x ∧ inn h done.length sc = (x, done.length) :: sc) ∨ (¬ h.w = "fn" ∧ inn h done.length sc = sc) := by
      cases h <;> simp [Hd.w, inn]
    have hz : done.length < 1000000 := by
      have : 0 < (stk ((Tm.nd h ps, lv, sc) :: st) done.length).length := by
        simp [stk, wk_len]
        omega
      omega
    have har : ps.length ≤ 3 := by
      rw [(ok_nd.mp okp).1]
      cases h <;> simp [Hd.ar]
    have hsz2 : (stk ((Tm.nd h ps, lv, sc) :: st) done.length).length = 1 + Tms.sz ps + (stk st (done.length + (1 + Tms.sz ps))).length := by simp [stk, wk_len]
    have hstl : ∀ (l : List Row) (n : Nat), l.length ≤ (stk l n).length := fun l => by
      induction l with
      | nil => intro n; simp [stk]
      | cons a l ih =>
        intro n
        obtain ⟨q, lq, sq⟩ := a
        have := ih (n + q.sz)
        have := sz_pos q
        simp [stk, wk_len]
        omega
    have hst := hstl st (done.length + (1 + Tms.sz ps))
    have goal : ∀ sc' : Sc, inn h done.length sc = sc' → wk t 1 0 [] = done ++ [(Tm.nd h ps, lv, sc)] ++ stk ((ps.map fun p => (p, lv + 1, sc')) ++ st) (done ++ [(Tm.nd h ps, lv, sc)]).length ∧ rsz ((ps.map fun p => (p, lv + 1, sc')) ++ st) < rsz ((Tm.nd h ps, lv, sc) :: st) := fun sc' e => by
      subst e
      refine ⟨?_, ?_⟩
      · rw [hw, stk_app]
        simp [stk, wk, Nat.add_assoc]
      · unfold rsz
        rw [List.map_append, List.map_map, sz_app]
        have : (Prod.fst ∘ fun p : Tm => ((p, lv + 1, inn h done.length sc) : Row)) = id := rfl
        rw [this, List.map_id]
        simp
    have oks : ∀ sc' : Sc, ∀ r ∈ (ps.map fun p => ((p, lv + 1, sc') : Row)) ++ st, r.1.ok := fun sc' r hr => by
      rcases List.mem_append.mp hr with hr | hr
      · obtain ⟨p, hp, rfl⟩ := List.mem_map.mp hr
        exact oks_iff.mp (ok_nd.mp okp).2.2 p hp
      · exact hok r (List.mem_cons_of_mem _ hr)
    rcases fin with ⟨x, rfl, hi⟩ | ⟨hne, hi⟩
    · simp [Hd.w]
      refine ⟨by omega, lcI ?_⟩
      simp
      refine ⟨_, rfl, okp, ?_⟩
      simp
      refine compMap (f := fun u => .sh (.tup [u, .int ((lv : Int) + 1), Sc.T ((x, done.length) :: sc)])) rfl ?_ ?_ fun u hu C E hE => ?_
      · simp; omega
      · simp
        refine ⟨by omega, _, (goal _ hi).2, _, _, ⟨?_, ?_⟩, fun a b c hr => oks _ _ hr, (goal _ hi).1, rfl⟩
        · simp
        · simp [tms_map]
      · simp
        exact hE _ rfl
    · simp [hne]
      refine ⟨by omega, lcI ?_⟩
      simp
      refine ⟨_, rfl, okp, ?_⟩
      simp
      refine compMap (f := fun u => .sh (.tup [u, .int ((lv : Int) + 1), Sc.T sc])) rfl ?_ ?_ fun u hu C E hE => ?_
      · simp; omega
      · simp
        refine ⟨by omega, _, (goal _ hi).2, _, _, ⟨?_, ?_⟩, fun a b c hr => oks _ _ hr, (goal _ hi).1, rfl⟩
        · simp
        · simp [tms_map]
      · simp
        exact hE _ rfl
end Rd
end TL

set_option maxHeartbeats 2000000
namespace TL
open PySem PySem.Spec PyProof.Rows L2
namespace Rd
def oI : Option Nat → T
  | none => .non
  | some i => .int (i : Nat)
def oS : Option Str → T
  | none => .non
  | some s => .str s
@[simp] theorem oI_n : oI none = .non := rfl
@[simp] theorem oI_s (i : Nat) : oI (some i) = .int (i : Nat) := rfl
@[simp] theorem oS_n : oS none = .non := rfl
@[simp] theorem oS_s (i : Str) : oS (some i) = .str i := rfl
def Sc.ok (sc : Sc) : Prop := ∀ p ∈ sc, sOk p.1
@[simp] theorem scT_nil : Sc.T [] = .non := rfl
@[simp] theorem scT_cons (x : Str) (i : Nat) (r : Sc) : Sc.T ((x, i) :: r) = .tup [.str x, .int (i : Nat), Sc.T r] := rfl
/-! binder_in -/
def g_binder_in : GT := fun ts K _ => ∃ (sc : Sc) (x : Str), ts = [sc.T, .str x] ∧ sOk x ∧ sc.ok ∧ K (.sh (oI (sc.lookup x)))
theorem pl_binder_in (ts : List T) (K0 : O → Prop) (Z0 : ZX) (h : g_binder_in ts K0 Z0) : x_binder_in (endP K0 Z0) (slots 2 ts) := by
  obtain ⟨sc, x, rfl, hx, hsc, hk⟩ := h
  unfold x_binder_in
  simp
  refine whI (fun m ρ => ∃ sc' : Sc, ρ = [some (.sh sc'.T), some (.sh (.str x))] ∧ sc'.ok ∧ sc'.lookup x = sc.lookup x ∧ m = sc'.length) ⟨_, sc, rfl, hsc, rfl, rfl⟩ ?_
  rintro m ρ ⟨sc', rfl, hok, hl, rfl⟩
  cases sc' with
  | nil =>
    rw [← hl] at hk
    simpa using hk
  | cons p r =>
    obtain ⟨y, i⟩ := p
    have hy : sOk y := hok _ List.mem_cons_self
    unfold sOk at hx hy
    have hr : Sc.ok r := fun q hq => hok q (List.mem_cons_of_mem _ hq)
    rw [List.lookup_cons] at hl
    by_cases e : y = x
    · subst e
      simp at hl
      rw [← hl] at hk
      simpa [hx] using hk
    · have e' : (x == y) = false := by simpa using fun z => e z.symm
      rw [e'] at hl
      simp [hx, hy, e]
      exact ⟨r.length, by omega, r, rfl, hr, hl, rfl⟩
/-! is_free -/
def free (r : Row) : Bool := match r.1.hd with
  | .nam x => (r.2.2.lookup x).isNone
  | _ => false
def Row.ok (r : Row) : Prop := r.1.ok ∧ r.2.2.ok
def g_is_free : GT := fun ts K _ => ∃ r : Row, ts = [r.T] ∧ r.ok ∧ K (.sh (.bl (free r)))
theorem oI_non (o : Option Nat) (Q : Bool → Prop) : op2B isNT (oI o) .non (c := ⟨Q⟩) = Q o.isNone := by cases o <;> rfl
theorem pl_is_free (ts : List T) (K0 : O → Prop) (Z0 : ZX) (h : g_is_free ts K0 Z0) : x_is_free g_binder_in.pf (endP K0 Z0) (slots 1 ts) := by
  obtain ⟨⟨⟨h, ps⟩, lv, sc⟩, rfl, ⟨hok, hsc⟩, hk⟩ := h
  unfold x_is_free
  obtain ⟨hl, hg, -⟩ := ok_nd.mp hok
  by_cases e : h.w = "name"
  · obtain ⟨x, rfl⟩ := w_nam.mp e
    simp [Hd.w]
    refine ⟨sc, x, rfl, hg, hsc, ?_⟩
    simpa [oI_non, free] using hk
  · have hf : free (Tm.nd h ps, lv, sc) = false := by
      cases h <;> first
        | rfl
        | exact absurd rfl e
    rw [hf] at hk
    simpa [e] using hk
/-! the walk's rows -/
mutual
theorem wk_ok : ∀ (t : Tm) (lv n : Nat) (sc : Sc), t.ok → sc.ok → ∀ r ∈ wk t lv n sc, r.ok
  | .nd h ps, lv, n, sc, ht, hs, r, hr => by
    rw [wk] at hr
    obtain ⟨_, hg, hp⟩ := ok_nd.mp ht
    rcases List.mem_cons.mp hr with rfl | hr
    · exact ⟨ht, hs⟩
    · refine wks_ok ps _ _ _ hp (fun q hq => ?_) r hr
      cases h <;> first
        | exact hs q hq
        | (rcases List.mem_cons.mp hq with rfl | hq
           · exact hg
           · exact hs q hq)
theorem wks_ok : ∀ (ps : List Tm) (lv n : Nat) (sc : Sc), Tms.ok ps → sc.ok → ∀ r ∈ wks ps lv n sc, r.ok
  | [], _, _, _, _, _, r, hr => by rw [wks] at hr; cases hr
  | p :: ps, lv, n, sc, hp, hs, r, hr => by
    rw [wks] at hr
    rw [Tms.ok] at hp
    rcases List.mem_append.mp hr with hr | hr
    · exact wk_ok p _ _ _ hp.1 hs r hr
    · exact wks_ok ps _ _ _ hp.2 hs r hr
end
theorem sc_ok_nil : Sc.ok [] := fun _ h => by cases h
/-! first_free -/
def nm (r : Row) : Str := match r.1.hd with
  | .nam x => x
  | _ => ""
def ff (t : Tm) : Option Str := ((wk t 1 0 []).find? free).map nm
def g_first_free : GT := fun ts K _ => ∃ t : Tm, ts = [t.T] ∧ t.ok ∧ t.sz ≤ 1000000 ∧ K (.sh (oS (ff t)))
theorem free_nam {r : Row} (h : free r = true) : ∃ x, r.1.hd = .nam x := by
  unfold free at h
  split at h
  · rename_i x e
    exact ⟨x, e⟩
  · cases h
theorem pl_first_free (ts : List T) (K0 : O → Prop) (Z0 : ZX) (h : g_first_free ts K0 Z0) : x_first_free g_walk.pf g_is_free.pf (endP K0 Z0) (slots 2 ts) := by
  obtain ⟨t, rfl, ok, hsz, hk⟩ := h
  unfold x_first_free
  simp
  refine foI ?_
  simp
  refine ⟨t, rfl, ok, hsz, ?_⟩
  simp
  refine forI (fun i ρ => (∃ x1, ρ = [some (.sh t.T), x1]) ∧ ((wk t 1 0 []).take i).find? free = none) ⟨⟨_, rfl⟩, by simp⟩ ?_ ?_
  · rintro i u ρ hu ⟨⟨x1, rfl⟩, hn⟩
    rw [List.getElem?_map] at hu
    cases hr : (wk t 1 0 [])[i]? with
    | none => rw [hr] at hu; cases hu
    | some r =>
      rw [hr] at hu
      cases hu
      simp
      refine ⟨r, rfl, wk_ok t 1 0 [] ok sc_ok_nil r (List.mem_of_getElem? hr), ?_⟩
      simp
      cases hf : free r with
      | true =>
        obtain ⟨x, hx⟩ := free_nam hf
        obtain ⟨⟨h, ps⟩, lv, sc⟩ := r
        rw [hd_nd] at hx
        subst hx
        have e : ff t = some x := by
          unfold ff
          have e1 : (wk t 1 0 []).find? free = some (Tm.nd (.nam x) ps, lv, sc) := by
            rw [← List.take_append_drop i (wk t 1 0 []), List.find?_append, hn, List.drop_eq_getElem_cons (List.getElem?_eq_some_iff.mp hr).1, (List.getElem?_eq_some_iff.mp hr).2, List.find?_cons, hf]
            rfl
          rw [e1]
          rfl
        rw [e] at hk
        simpa using hk
      | false =>
        have hn' : ((wk t 1 0 []).take (i + 1)).find? free = none := by
          rw [List.take_add_one, hr, List.find?_append, hn]
          simp [hf]
        simpa using hn'
  · rintro ρ ⟨⟨x1, rfl⟩, hn⟩
    rw [List.length_map, List.take_length] at hn
    have e : ff t = none := by unfold ff; rw [hn]; rfl
    rw [e] at hk
    simpa using hk
end Rd
end TL

set_option maxHeartbeats 2000000
namespace TL
open PySem PySem.Spec PyProof.Rows L2
namespace Rd
@[simp] theorem max_cast (a b : Nat) : (if (b : Int) > (a : Int) then (b : Int) else (a : Int)) = ((max a b : Nat) : Int) := by
  split <;> omega
@[simp] theorem max_cast' (a b : Nat) : (if (a : Int) < (b : Int) then (b : Int) else (a : Int)) = ((max a b : Nat) : Int) := by
  split <;> omega
@[simp] theorem max_cast2 (a b : Nat) : (if a < b then (b : Int) else (a : Int)) = ((max a b : Nat) : Int) := by
  split <;> omega
/-! measure -/
def mx (rows : List Row) : Nat := rows.foldl (fun d r => max d r.2.1) 0
theorem mx_snoc (rows : List Row) (r : Row) : mx (rows ++ [r]) = max (mx rows) r.2.1 := by unfold mx; rw [List.foldl_append]; rfl
theorem take_snoc {α : Type} {l : List α} {i : Nat} {a : α} (h : l[i]? = some a) : l.take (i + 1) = l.take i ++ [a] := by rw [List.take_add_one, h]; rfl
def g_measure : GT := fun ts K _ => ∃ rows : List Row, ts = [.lst (rows.map Row.T)] ∧ K (.sh (.tup [.int (mx rows : Nat), .int (rows.length : Nat)]))
theorem pl_measure (ts : List T) (K0 : O → Prop) (Z0 : ZX) (h : g_measure ts K0 Z0) : x_measure (endP K0 Z0) (slots 3 ts) := by
  obtain ⟨rows, rfl, hk⟩ := h
  unfold x_measure
  simp
  refine foI ?_
  simp
  refine forI (fun i ρ => ∃ x2, ρ = [some (.sh (.lst (rows.map Row.T))), some (.sh (.int (mx (rows.take i) : Nat))), x2]) ⟨_, rfl⟩ ?_ ?_
  · rintro i u ρ hu ⟨x2, rfl⟩
    rw [List.getElem?_map] at hu
    cases hr : rows[i]? with
    | none => rw [hr] at hu; cases hu
    | some r =>
      rw [hr] at hu
      cases hu
      obtain ⟨t, lv, sc⟩ := r
      rw [take_snoc hr, mx_snoc]
      simp
  · rintro ρ ⟨x2, rfl⟩
    rw [List.length_map, List.take_length]
    simpa using hk
/-! swap_measure -/
def hit (x : Str) (r : Row) : Bool := free r && decide (nm r = x)
def sdF (x : Str) (low : Nat) (d : Nat) (r : Row) : Nat := max d (if hit x r then r.2.1 - 1 + low else r.2.1)
def ssF (x : Str) (many : Nat) (d : Nat) (r : Row) : Nat := d + (if hit x r then many else 1)
def sd (t : Tm) (x : Str) (c : Tm) : Nat := (wk t 1 0 []).foldl (sdF x (mx (wk c 1 0 []))) 0
def ss (t : Tm) (x : Str) (c : Tm) : Nat := (wk t 1 0 []).foldl (ssF x c.sz) 0
mutual
theorem wk_lv : ∀ (t : Tm) (lv n : Nat) (sc : Sc), ∀ r ∈ wk t lv n sc, lv ≤ r.2.1
  | .nd h ps, lv, n, sc, r, hr => by
    rw [wk] at hr
    rcases List.mem_cons.mp hr with rfl | hr
    · exact Nat.le_refl _
    · exact Nat.le_of_succ_le (wks_lv ps _ _ _ r hr)
theorem wks_lv : ∀ (ps : List Tm) (lv n : Nat) (sc : Sc), ∀ r ∈ wks ps lv n sc, lv ≤ r.2.1
  | [], _, _, _, r, hr => by rw [wks] at hr; cases hr
  | p :: ps, lv, n, sc, r, hr => by
    rw [wks] at hr
    rcases List.mem_append.mp hr with hr | hr
    · exact wk_lv p _ _ _ r hr
    · exact wks_lv ps _ _ _ r hr
end
def g_swap_measure : GT := fun ts K _ => ∃ (t c : Tm) (x : Str), ts = [t.T, .str x, c.T] ∧ t.ok ∧ c.ok ∧ sOk x ∧ t.sz ≤ 1000000 ∧ c.sz ≤ 1000000 ∧ K (.sh (.tup [.int (sd t x c : Nat), .int (ss t x c : Nat)]))
theorem pl_swap_measure (ts : List T) (K0 : O → Prop) (Z0 : ZX) (h : g_swap_measure ts K0 Z0) : x_swap_measure g_measure.pf g_walk.pf g_is_free.pf (endP K0 Z0) (slots 8 ts) := by
  obtain ⟨t, c, x, rfl, ok, okc, hx, hs, hsc, hk⟩ := h
  unfold x_swap_measure
  simp
  refine ⟨c, rfl, okc, hsc, ?_⟩
  simp
  refine ⟨wk c 1 0 [], by simp, ?_⟩
  simp [wk_len]
  refine foI ?_
  simp
  refine ⟨t, rfl, ok, hs, ?_⟩
  simp
  refine forI (fun i ρ => ∃ x7, ρ = [some (.sh t.T), some (.sh (.str x)), some (.sh c.T), some (.sh (.int (mx (wk c 1 0 []) : Nat))), some (.sh (.int (c.sz : Nat))), some (.sh (.int (((wk t 1 0 []).take i).foldl (sdF x (mx (wk c 1 0 []))) 0 : Nat))), some (.sh (.int (((wk t 1 0 []).take i).foldl (ssF x c.sz) 0 : Nat))), x7]) ⟨_, rfl⟩ ?_ ?_
  · rintro i u ρ hu ⟨x7, rfl⟩
    rw [List.getElem?_map] at hu
    cases hr : (wk t 1 0 [])[i]? with
    | none => rw [hr] at hu; cases hu
    | some r =>
      rw [hr] at hu
      cases hu
      have hm := List.mem_of_getElem? hr
      have hro := wk_ok t 1 0 [] ok sc_ok_nil r hm
      have hlv := wk_lv t 1 0 [] r hm
      rw [take_snoc hr, List.foldl_append, List.foldl_append]
      obtain ⟨⟨h, ps⟩, lv, sc⟩ := r
      have no : hit x (Tm.nd h ps, lv, sc) = false → sdF x (mx (wk c 1 0 [])) (((wk t 1 0 []).take i).foldl (sdF x (mx (wk c 1 0 []))) 0) (Tm.nd h ps, lv, sc) = max (((wk t 1 0 []).take i).foldl (sdF x (mx (wk c 1 0 []))) 0) lv ∧ ssF x c.sz (((wk t 1 0 []).take i).foldl (ssF x c.sz) 0) (Tm.nd h ps, lv, sc) = ((wk t 1 0 []).take i).foldl (ssF x c.sz) 0 + 1 := fun e => by
        unfold sdF ssF
        rw [e]
        exact ⟨rfl, rfl⟩
      by_cases e : h.w = "name"
      · obtain ⟨y, rfl⟩ := w_nam.mp e
        have hy : sOk y := (ok_nd.mp hro.1).2.1
        unfold sOk at hx hy
        by_cases e2 : y = x
        · subst e2
          simp [Hd.w, hy]
          refine ⟨_, rfl, hro, ?_⟩
          cases hf : free (Tm.nd (.nam y) ps, lv, sc) with
          | true =>
            have ht : hit y (Tm.nd (.nam y) ps, lv, sc) = true := by unfold hit; rw [hf]; simp [nm]
            have e3 : ((lv : Int) - 1 + (mx (wk c 1 0 []) : Int)) = ((lv - 1 + mx (wk c 1 0 []) : Nat) : Int) := by
              have : 1 ≤ lv := hlv
              omega
            simp [e3]
            simp [sdF, ssF, ht]
            split <;> omega
          | false =>
            obtain ⟨n1, n2⟩ := no (by unfold hit; rw [hf]; rfl)
            simp
            rw [n1, n2]
            simp
        · obtain ⟨n1, n2⟩ := no (by unfold hit; simp [nm, e2])
          simp [Hd.w, hy, hx, e2]
          rw [n1, n2]
          simp
      · have hf : free (Tm.nd h ps, lv, sc) = false := by
          cases h <;> first
            | rfl
            | exact absurd rfl e
        obtain ⟨n1, n2⟩ := no (by unfold hit; rw [hf]; rfl)
        simp [e]
        rw [n1, n2]
        simp
  · rintro ρ ⟨x7, rfl⟩
    rw [List.length_map, List.take_length]
    simpa [sd, ss] using hk
end Rd
end TL

set_option maxHeartbeats 2000000
namespace TL
open PySem PySem.Spec PyProof.Rows L2
namespace Rd
/-! swapped -/
mutual
def sub (x : Str) (c : Tm) : Tm → Tm
  | .nd h ps => match h with
    | .nam y => if y = x then c else .nd h ps
    | .fn y => if y = x then .nd h ps else .nd h (subs x c ps)
    | _ => .nd h (subs x c ps)
def subs (x : Str) (c : Tm) : List Tm → List Tm
  | [] => []
  | p :: ps => sub x c p :: subs x c ps
end
mutual
def Tm.dep : Tm → Nat
  | .nd _ ps => 1 + Tms.dep ps
def Tms.dep : List Tm → Nat
  | [] => 0
  | p :: ps => max p.dep (Tms.dep ps)
end
theorem dep_mem : ∀ {ps : List Tm} {p : Tm}, p ∈ ps → p.dep ≤ Tms.dep ps
  | q :: ps, p, h => by
    rw [Tms.dep]
    rcases List.mem_cons.mp h with rfl | h
    · omega
    · have := dep_mem h
      omega
theorem subs_map (x : Str) (c : Tm) : ∀ ps, subs x c ps = ps.map (sub x c)
  | [] => rfl
  | p :: ps => by rw [subs, subs_map x c ps]; rfl
def g_swapped (d : Nat) : GT := fun ts K _ => ∃ (t c : Tm) (x : Str), ts = [t.T, .str x, c.T] ∧ t.ok ∧ c.ok ∧ sOk x ∧ t.dep ≤ d ∧ K (.sh (sub x c t).T)
theorem pl_swapped (d : Nat) (ts : List T) (K0 : O → Prop) (Z0 : ZX) (h : g_swapped (d + 1) ts K0 Z0) : x_swapped g_rebuilt.pf g_parts_of.pf (g_swapped d).pf (endP K0 Z0) (slots 5 ts) := by
  obtain ⟨⟨h, ps⟩, c, x, rfl, ok, okc, hx, hd, hk⟩ := h
  obtain ⟨hl, hg, hps⟩ := ok_nd.mp ok
  have okp := oks_iff.mp hps
  have hx' := hx
  unfold sOk at hx'
  have go : h.w ≠ "name" → (∀ y, h = .fn y → y ≠ x) → sub x c (Tm.nd h ps) = Tm.nd h (subs x c ps) := fun e1 e2 => by
    cases h <;> first
      | exact absurd rfl e1
      | (simp [sub, e2 _ rfl]; done)
      | (simp [sub]; done)
  have main : sub x c (Tm.nd h ps) = Tm.nd h (subs x c ps) → lcE (xSeqI (xCall g_parts_of.pf (xCons (xName 0) xNil))) (gN 4) xYes (xCall (g_swapped d).pf (xCons (xName 4) (xCons (xName 1) (xCons (xName 2) xNil)))) [4]
      [some (.sh (Tm.nd h ps).T), some (.sh (.str x)), some (.sh c.T), some (.sh (.str (Str.ofString h.w))), none]
      (c := ⟨fun o ρ1 => opLE (un1 tupleT) (O.ts [o]) (c := ⟨fun o2 => callE g_rebuilt (O.ts [.sh (Tm.nd h ps).T, o2]) (c := ⟨fun o3 => K0 o3⟩) (z := ⟨fun C fs ts => Z0 C fs ts⟩)⟩)⟩) (z := ⟨fun C fs ts _ => Z0 C fs ts⟩) := fun e => by
    refine lcI ?_
    simp
    refine ⟨_, rfl, ok, ?_⟩
    simp
    have hlen : ps.length ≤ 3 := by rw [hl]; cases h <;> simp [Hd.ar]
    refine compI (fun i acc ρ => ρ = [some (.sh (Tm.nd h ps).T), some (.sh (.str x)), some (.sh c.T), some (.sh (.str (Str.ofString h.w))), none] ∧ acc = ((ps.take i).map (sub x c)).map fun t => .sh t.T) ⟨by simp, by simp⟩ ?_ ?_
    · rintro i u acc ρ hu ⟨rfl, rfl⟩
      rw [tms_map, List.getElem?_map] at hu
      cases hr : ps[i]? with
      | none => rw [hr] at hu; cases hu
      | some p =>
        rw [hr] at hu
        cases hu
        have hm := List.mem_of_getElem? hr
        simp
        have hdp := dep_mem hm
        rw [Tm.dep] at hd
        refine ⟨p, c, x, rfl, okp p hm, okc, hx, by omega, ?_⟩
        rw [take_snoc hr]
        simp
        omega
    · rintro acc ρ ⟨rfl, rfl⟩
      simp
      refine ⟨h, ps, ps.map (sub x c), by simp [tms_map, List.take_of_length_le], ok, by simp, ?_⟩
      rw [e, subs_map] at hk
      exact hk
  unfold x_swapped
  by_cases e : h.w = "name"
  · obtain ⟨y, rfl⟩ := w_nam.mp e
    have hy : sOk y := hg
    unfold sOk at hy
    rw [sub] at hk
    by_cases e2 : y = x
    · rw [if_pos e2] at hk
      subst e2
      simpa [Hd.w, hy] using hk
    · rw [if_neg e2] at hk
      simpa [Hd.w, hy, hx', e2] using hk
  · by_cases e1 : h.w = "fn"
    · obtain ⟨y, rfl⟩ := w_fn.mp e1
      have hy : sOk y := hg
      unfold sOk at hy
      by_cases e2 : y = x
      · rw [sub, if_pos e2] at hk
        subst e2
        simpa [Hd.w, hy] using hk
      · have m := main (go e fun z hz => by cases hz; exact e2)
        simp [Hd.w, hy, hx', e2]
        exact m
    · have m := main (go e fun z hz => by subst hz; exact absurd rfl e1)
      simp [e, e1]
      exact m
/-! refuse_great -/
def g_refuse_great (ga : Str → Addr) : GT := fun ts K Z => ∃ d s : Nat, ts = [.int (d : Nat), .int (s : Nat)] ∧ (40 < d → Z (ga "TooDeep") ["limit"] [.int 40]) ∧ (d ≤ 40 → 300 < s → Z (ga "TooBig") ["limit"] [.int 300]) ∧ (d ≤ 40 → s ≤ 300 → K (.sh .non))
theorem pl_refuse_great (ga : Str → Addr) (ts : List T) (K0 : O → Prop) (Z0 : ZX) (h : g_refuse_great ga ts K0 Z0) : x_refuse_great ga (endP K0 Z0) (slots 2 ts) := by
  obtain ⟨d, s, rfl, h1, h2, h3⟩ := h
  unfold x_refuse_great
  simp
  by_cases e : 40 < d
  · have e' : (40 : Int) < d := by omega
    simpa [e'] using h1 e
  · have e' : ¬ (40 : Int) < d := by omega
    by_cases f : 300 < s
    · have f' : (300 : Int) < s := by omega
      simpa [e', f'] using h2 (by omega) f
    · have f' : ¬ (300 : Int) < s := by omega
      simpa [e', f'] using h3 (by omega) (by omega)
end Rd
end TL

set_option maxHeartbeats 2000000
namespace TL
open PySem PySem.Spec PyProof.Rows L2
namespace Rd
@[simp] theorem ix_wordV (t : Tm) (Q : O → Prop) : op2E ixT t.T (.int 0) (c := ⟨Q⟩) = Q (.sh (.str (Str.ofString t.hd.w))) := by
  obtain ⟨h, ps⟩ := t
  exact ix_word h ps Q
theorem w_pr {h : Hd} : h.w = "pair" ↔ h = .pr := by cases h <;> simp [Hd.w]
theorem w_sel {h : Hd} : h.w = "seal" ↔ h = .sel := by cases h <;> simp [Hd.w]
def Hd.isFn : Hd → Bool
  | .fn _ => true
  | _ => false
def Hd.isPr : Hd → Bool
  | .pr => true
  | _ => false
def Hd.isSel : Hd → Bool
  | .sel => true
  | _ => false
@[simp] theorem wd_fn (h : Hd) : decide (h.w = "fn") = h.isFn := by cases h <;> simp [Hd.w, Hd.isFn]
@[simp] theorem wd_pr (h : Hd) : decide (h.w = "pair") = h.isPr := by cases h <;> simp [Hd.w, Hd.isPr]
@[simp] theorem wd_sel (h : Hd) : decide (h.w = "seal") = h.isSel := by cases h <;> simp [Hd.w, Hd.isSel]
def rdx : Tm → Bool
  | .nd (.note _) _ => true
  | .nd .app [a, b] => a.hd.isFn && (ff b).isNone
  | .nd .lft [a] => a.hd.isPr
  | .nd .rgt [a] => a.hd.isPr
  | .nd .uns [a] => a.hd.isSel
  | _ => false
theorem oS_non (o : Option Str) (Q : Bool → Prop) : op2B isNT (oS o) .non (c := ⟨Q⟩) = Q o.isNone := by cases o <;> rfl
@[simp] theorem ix_ch0 (h : Hd) (hw : h.pre.length = 1) (a : Tm) (ps : List Tm) (Q : O → Prop) : op2E ixT (Tm.nd h (a :: ps)).T (.int 1) (c := ⟨Q⟩) = Q (.sh a.T) := by
  rw [Tm.T]
  match h.pre, hw with
  | [w], _ => simp
@[simp] theorem ix_ch1 (h : Hd) (hw : h.pre.length = 1) (a b : Tm) (ps : List Tm) (Q : O → Prop) : op2E ixT (Tm.nd h (a :: b :: ps)).T (.int 2) (c := ⟨Q⟩) = Q (.sh b.T) := by
  rw [Tm.T]
  match h.pre, hw with
  | [w], _ => simp
@[simp] theorem ix_fn2 (x : Str) (a : Tm) (ps : List Tm) (Q : O → Prop) : op2E ixT (Tm.nd (.fn x) (a :: ps)).T (.int 2) (c := ⟨Q⟩) = Q (.sh a.T) := by simp [Tm.T, Hd.pre]
theorem ok_kids {h : Hd} {ps : List Tm} (ok : (Tm.nd h ps).ok) : ∀ p ∈ ps, p.ok := oks_iff.mp (ok_nd.mp ok).2.2
def g_is_redex : GT := fun ts K _ => ∃ t : Tm, ts = [t.T] ∧ t.ok ∧ t.sz ≤ 1000000 ∧ K (.sh (.bl (rdx t)))
theorem pl_is_redex (ts : List T) (K0 : O → Prop) (Z0 : ZX) (h : g_is_redex ts K0 Z0) : x_is_redex g_first_free.pf (endP K0 Z0) (slots 2 ts) := by
  obtain ⟨⟨h, ps⟩, rfl, ok, hs, hk⟩ := h
  obtain ⟨hl, hg, hps⟩ := ok_nd.mp ok
  have okp := ok_kids ok
  unfold x_is_redex
  cases h with
  | note f =>
    simp [Hd.w]
    exact hk
  | app =>
    obtain ⟨a, b, rfl⟩ := len2 hl
    simp [Hd.w]
    rw [ix_ch0 _ rfl]
    simp
    have hk' : K0 (.sh (.bl (a.hd.isFn && (ff b).isNone))) := hk
    cases e : a.hd.isFn with
    | false =>
      rw [e] at hk'
      simpa [e] using hk'
    | true =>
      rw [e] at hk'
      simp [e]
      rw [ix_ch1 _ rfl]
      refine ⟨b, rfl, okp b (by simp), by simp at hs; omega, ?_⟩
      simpa [oS_non] using hk'
  | lft | rgt =>
    obtain ⟨a, rfl⟩ := len1 hl
    simp [Hd.w]
    rw [ix_ch0 _ rfl]
    simp
    exact hk
  | uns =>
    obtain ⟨a, rfl⟩ := len1 hl
    simp [Hd.w]
    rw [ix_ch0 _ rfl]
    simp
    exact hk
  | _ =>
    simp [Hd.w]
    exact hk
/-! reduced_root -/
def root : Tm → Tm
  | .nd (.note _) [a] => a
  | .nd .app [.nd (.fn x) [b], c] => sub x c b
  | .nd .rgt [.nd .pr [_, b]] => b
  | .nd .lft [.nd .pr [a, _]] => a
  | .nd .uns [.nd .sel [a]] => a
  | t => t
/-- what a redex looks like -/
inductive Rdx : Tm → Prop
  | note (f : T) (a : Tm) : Rdx (.nd (.note f) [a])
  | app (x : Str) (b c : Tm) (hc : ff c = none) : Rdx (.nd .app [.nd (.fn x) [b], c])
  | rgt (a b : Tm) : Rdx (.nd .rgt [.nd .pr [a, b]])
  | lft (a b : Tm) : Rdx (.nd .lft [.nd .pr [a, b]])
  | uns (a : Tm) : Rdx (.nd .uns [.nd .sel [a]])
theorem rdx_iff {t : Tm} (ok : t.ok) (h : rdx t = true) : Rdx t := by
  obtain ⟨h0, ps⟩ := t
  have hl := (ok_nd.mp ok).1
  have okp := ok_kids ok
  cases h0 with
  | note f =>
    obtain ⟨a, rfl⟩ := len1 hl
    exact .note f a
  | app =>
    obtain ⟨⟨ha, pa⟩, b, rfl⟩ := len2 hl
    simp only [rdx, Bool.and_eq_true] at h
    cases ha <;> first
      | cases h.1
      | skip
    rename_i x
    obtain ⟨c, rfl⟩ := len1 (ok_nd.mp (okp _ List.mem_cons_self)).1
    exact .app x c b (Option.isNone_iff_eq_none.mp h.2)
  | lft =>
    obtain ⟨⟨ha, pa⟩, rfl⟩ := len1 hl
    cases ha <;> first
      | cases h
      | skip
    obtain ⟨a, b, rfl⟩ := len2 (ok_nd.mp (okp _ List.mem_cons_self)).1
    exact .lft a b
  | rgt =>
    obtain ⟨⟨ha, pa⟩, rfl⟩ := len1 hl
    cases ha <;> first
      | cases h
      | skip
    obtain ⟨a, b, rfl⟩ := len2 (ok_nd.mp (okp _ List.mem_cons_self)).1
    exact .rgt a b
  | uns =>
    obtain ⟨⟨ha, pa⟩, rfl⟩ := len1 hl
    cases ha <;> first
      | cases h
      | skip
    obtain ⟨a, rfl⟩ := len1 (ok_nd.mp (okp _ List.mem_cons_self)).1
    exact .uns a
  | _ => cases h
def g_reduced_root (d : Nat) : GT := fun ts K _ => ∃ t : Tm, ts = [t.T] ∧ t.ok ∧ Rdx t ∧ t.dep ≤ d ∧ K (.sh (root t).T)
theorem pl_reduced_root (d : Nat) (ts : List T) (K0 : O → Prop) (Z0 : ZX) (h : g_reduced_root d ts K0 Z0) : x_reduced_root (g_swapped d).pf (endP K0 Z0) (slots 2 ts) := by
  obtain ⟨t, rfl, ok, hr, hd, hk⟩ := h
  have okp : ∀ {h : Hd} {ps : List Tm}, t = .nd h ps → ∀ p ∈ ps, p.ok := fun e => by subst e; exact ok_kids ok
  unfold x_reduced_root
  cases hr with
  | note f a =>
    simp [Hd.w]
    rw [ix_ch0 _ rfl]
    exact hk
  | app x b c hc =>
    simp [Hd.w]
    rw [ix_ch0 _ rfl]
    simp
    rw [ix_ch0 _ rfl]
    simp
    rw [ix_ch1 _ rfl]
    have o1 := okp rfl (.nd (.fn x) [b]) (by simp)
    refine ⟨b, c, x, rfl, ok_kids o1 b (by simp), okp rfl c (by simp), (ok_nd.mp o1).2.1, ?_, hk⟩
    simp only [Tm.dep, Tms.dep] at hd
    omega
  | rgt a b =>
    simp [Hd.w]
    rw [ix_ch0 _ rfl]
    simp
    rw [ix_ch1 _ rfl]
    exact hk
  | lft a b =>
    simp [Hd.w]
    rw [ix_ch0 _ rfl]
    simp
    rw [ix_ch0 _ rfl]
    exact hk
  | uns a =>
    simp [Hd.w]
    rw [ix_ch0 _ rfl]
    simp
    rw [ix_ch0 _ rfl]
    exact hk
end Rd
end TL

set_option maxHeartbeats 2000000
namespace TL
open PySem PySem.Spec PyProof.Rows L2
namespace Rd
mutual
theorem sub_ok {x : Str} {c : Tm} (hc : c.ok) : ∀ {t : Tm}, t.ok → (sub x c t).ok
  | .nd h ps, ht => by
    obtain ⟨hl, hg, hp⟩ := ok_nd.mp ht
    have go : (Tm.nd h (subs x c ps)).ok := ok_nd.mpr ⟨by rw [subs_map, List.length_map]; exact hl, hg, subs_ok hc hp⟩
    unfold sub
    split
    · split
      · exact hc
      · exact ht
    · split
      · exact ht
      · exact go
    · exact go
theorem subs_ok {x : Str} {c : Tm} (hc : c.ok) : ∀ {ps : List Tm}, Tms.ok ps → Tms.ok (subs x c ps)
  | [], _ => by rw [subs]; exact trivial
  | p :: ps, h => by
    rw [Tms.ok] at h
    rw [subs, Tms.ok]
    exact ⟨sub_ok hc h.1, subs_ok hc h.2⟩
end
theorem root_ok {t : Tm} (ok : t.ok) (hr : Rdx t) : (root t).ok := by
  have okp : ∀ {h : Hd} {ps : List Tm}, t = .nd h ps → ∀ p ∈ ps, p.ok := fun e => by subst e; exact ok_kids ok
  cases hr with
  | note f a => exact okp rfl a (by simp)
  | app x b c hc => exact sub_ok (okp rfl c (by simp)) (ok_kids (okp rfl (.nd (.fn x) [b]) (by simp)) b (by simp))
  | rgt a b => exact ok_kids (okp rfl (.nd .pr [a, b]) (by simp)) b (by simp)
  | lft a b => exact ok_kids (okp rfl (.nd .pr [a, b]) (by simp)) a (by simp)
  | uns a => exact ok_kids (okp rfl (.nd .sel [a]) (by simp)) a (by simp)
def rm : Tm → Nat × Nat
  | .nd .app [.nd (.fn x) [b], c] => (sd b x c, ss b x c)
  | t => (mx (wk (root t) 1 0 []), (root t).sz)
def g_reduced_measure (d : Nat) : GT := fun ts K _ => ∃ t : Tm, ts = [t.T] ∧ t.ok ∧ Rdx t ∧ t.dep ≤ d ∧ t.sz ≤ 1000000 ∧ K (.sh (.tup [.int ((rm t).1 : Nat), .int ((rm t).2 : Nat)]))
theorem pl_reduced_measure (d : Nat) (ts : List T) (K0 : O → Prop) (Z0 : ZX) (h : g_reduced_measure d ts K0 Z0) : x_reduced_measure g_swap_measure.pf g_measure.pf g_walk.pf (g_reduced_root d).pf (endP K0 Z0) (slots 1 ts) := by
  obtain ⟨t, rfl, ok, hr, hd, hs, hk⟩ := h
  have okp : ∀ {h : Hd} {ps : List Tm}, t = .nd h ps → ∀ p ∈ ps, p.ok := fun e => by subst e; exact ok_kids ok
  have other : t.hd.w ≠ "call" → rm t = (mx (wk (root t) 1 0 []), (root t).sz) → (root t).sz ≤ t.sz → x_reduced_measure g_swap_measure.pf g_measure.pf g_walk.pf (g_reduced_root d).pf (endP K0 Z0) (slots 1 [t.T]) := fun e1 e2 e3 => by
    unfold x_reduced_measure
    simp [e1]
    refine ⟨t, rfl, ok, hr, hd, ?_⟩
    simp
    refine ⟨root t, rfl, root_ok ok hr, by omega, ?_⟩
    simp
    refine ⟨wk (root t) 1 0 [], by simp, ?_⟩
    rw [e2] at hk
    rw [wk_len]
    exact hk
  cases hr with
  | note f a => exact other (by simp [Hd.w]) rfl (by simp [root])
  | rgt a b => exact other (by simp [Hd.w]) rfl (by simp [root]; omega)
  | lft a b => exact other (by simp [Hd.w]) rfl (by simp [root]; omega)
  | uns a => exact other (by simp [Hd.w]) rfl (by simp [root]; omega)
  | app x b c hc =>
    unfold x_reduced_measure
    simp [Hd.w]
    rw [ix_ch0 _ rfl]
    simp
    rw [ix_ch0 _ rfl]
    simp
    rw [ix_ch1 _ rfl]
    have o1 := okp rfl (.nd (.fn x) [b]) (by simp)
    simp at hs
    exact ⟨b, c, x, rfl, ok_kids o1 b (by simp), okp rfl c (by simp), (ok_nd.mp o1).2.1, by omega, by omega, hk⟩
/-! redexes -/
def isR (t : Tm) (j : Nat) : Bool := ((wk t 1 0 [])[j]?).any fun r => rdx r.1
def rxs (t : Tm) : List Nat := (List.range t.sz).filter (isR t)
mutual
theorem wk_sz : ∀ (t : Tm) (lv n : Nat) (sc : Sc), ∀ r ∈ wk t lv n sc, r.1.sz ≤ t.sz
  | .nd h ps, lv, n, sc, r, hr => by
    rw [wk] at hr
    rcases List.mem_cons.mp hr with rfl | hr
    · exact Nat.le_refl _
    · have := wks_sz ps _ _ _ r hr
      simp
      omega
theorem wks_sz : ∀ (ps : List Tm) (lv n : Nat) (sc : Sc), ∀ r ∈ wks ps lv n sc, r.1.sz ≤ Tms.sz ps
  | [], _, _, _, r, hr => by rw [wks] at hr; cases hr
  | p :: ps, lv, n, sc, r, hr => by
    rw [wks] at hr
    simp
    rcases List.mem_append.mp hr with hr | hr
    · have := wk_sz p _ _ _ r hr
      omega
    · have := wks_sz ps _ _ _ r hr
      omega
end
def g_redexes : GT := fun ts K _ => ∃ t : Tm, ts = [t.T] ∧ t.ok ∧ t.sz ≤ 1000000 ∧ K (.lst ((rxs t).map fun (j : Nat) => .sh (.int (j : Nat))))
theorem pl_redexes (ts : List T) (K0 : O → Prop) (Z0 : ZX) (h : g_redexes ts K0 Z0) : x_redexes g_walk.pf g_is_redex.pf (endP K0 Z0) (slots 3 ts) := by
  obtain ⟨t, rfl, ok, hs, hk⟩ := h
  unfold x_redexes
  simp
  refine lcI ?_
  simp
  refine ⟨t, rfl, ok, hs, ?_⟩
  simp
  refine compI (fun i acc ρ => ρ = [some (.sh t.T), none, none] ∧ acc = ((List.range i).filter (isR t)).map fun (j : Nat) => .sh (.int (j : Nat))) ⟨by simp, by simp⟩ ?_ ?_
  · rintro i u acc ρ hu ⟨rfl, rfl⟩
    rw [enumL_get, List.getElem?_map] at hu
    cases hr : (wk t 1 0 [])[i]? with
    | none => rw [hr] at hu; cases hu
    | some r =>
      rw [hr] at hu
      cases hu
      have hm := List.mem_of_getElem? hr
      have hro := wk_ok t 1 0 [] ok sc_ok_nil r hm
      have hrs := wk_sz t 1 0 [] r hm
      have hi : i < t.sz := by
        have := (List.getElem?_eq_some_iff.mp hr).1
        rwa [wk_len] at this
      have hf : ((List.range i).filter (isR t)).length ≤ i := Nat.le_trans (List.length_filter_le _ _) (by simp)
      have e : isR t i = rdx r.1 := by unfold isR; rw [hr]; rfl
      obtain ⟨p, lv, sc⟩ := r
      simp
      refine ⟨p, rfl, hro.1, Nat.le_trans hrs hs, ?_⟩
      simp
      rw [List.range_succ, List.filter_append]
      have e' : isR t i = rdx p := e
      cases hp : rdx p with
      | true =>
        rw [hp] at e'
        simp [e']
        omega
      | false =>
        rw [hp] at e'
        simp [e']
  · rintro acc ρ ⟨rfl, rfl⟩
    rw [enumL_len, List.length_map, wk_len]
    exact hk
end Rd
end TL

set_option maxHeartbeats 2000000
namespace TL
open PySem PySem.Spec PyProof.Rows L2
namespace Rd
@[simp] theorem ofString_beq (a b : String) : (Str.ofString a == Str.ofString b) = decide (a = b) := by
  rw [Bool.beq_eq_decide_eq]
  simp
theorem compFilt {g : XG} {p : XT} {x : XE} {own : List Nat} {ts : List T} {ρ ρ1 : R} {K : O → R → Prop} {f : T → Option O} (hw : wipeR ρ own = ρ1) (hl : ts.length ≤ sizeLine) (hK : K (.lst (ts.filterMap f)) ρ1)
    (h : ∀ t ∈ ts, ∀ C : R → Prop, ∀ E : O → R → Prop, (f t = none → ∀ ρ4, wipeR ρ4 own = ρ1 → C ρ4) → (∀ o ρ4, f t = some o → wipeR ρ4 own = ρ1 → E o ρ4) → g (.sh t) ρ1 fun ρ2 => p ρ2 (fun b ρ3 => brE b (c := ⟨(x ρ3 E noZ, C ρ3)⟩)) noZ) : lcGo g p x own ts ρ (c := ⟨K⟩) := by
  refine compI (fun i acc r => r = ρ1 ∧ acc = (ts.take i).filterMap f) ⟨hw, by simp⟩ (fun i t acc r ht hi => ?_) fun acc r hi => ?_
  · obtain ⟨rfl, rfl⟩ := hi
    have hlt := (List.getElem?_eq_some_iff.mp ht).1
    refine h t (List.mem_of_getElem? ht) (fun r => onR (wipeR r own) (c := ⟨_⟩)) _ (fun e ρ4 h4 => ⟨h4, ?_⟩) fun o ρ4 e h4 => ⟨?_, h4, ?_⟩
    · rw [take_snoc ht, List.filterMap_append]
      simp [e]
    · have := List.length_filterMap_le f (ts.take i)
      rw [List.length_take] at this
      omega
    · rw [take_snoc ht, List.filterMap_append]
      simp [e]
  · obtain ⟨rfl, rfl⟩ := hi
    rw [List.take_length]
    exact hK
/-! child_slots -/
def Hd.sorts : Hd → List String
  | .con _ | .nam _ | .use _ => ["word"]
  | .hol => []
  | .fn _ => ["word", "term"]
  | .app | .pr => ["term", "term"]
  | .lft | .rgt | .sel | .uns => ["term"]
  | .note _ => ["term", "form"]
  | .pick _ => ["kind", "term", "term", "term"]
theorem layout_at (h : Hd) : kvs_LAYOUT.lookup (Str.ofString h.w) = some (.ktp (h.sorts.map fun s => .str (Str.ofString s))) := by
  cases h <;> simp [kvs_LAYOUT, Hd.w, Hd.sorts, List.lookup_cons]
def slF : T → Option O
  | .tup [.int i, .str s] => if s = Str.ofString "term" then some (.sh (.int (i + 1))) else none
  | _ => none
def Hd.slots (h : Hd) : List Nat := (List.range h.ar).map fun i => h.pre.length + i
theorem slF_all (h : Hd) : (enumL 0 (h.sorts.map fun s => .str (Str.ofString s))).filterMap slF = h.slots.map fun (i : Nat) => .sh (.int (i : Nat)) := by
  cases h <;> simp [Hd.sorts, enumL, slF, Hd.slots, Hd.ar, Hd.pre, List.range_succ, List.filterMap_cons]
theorem enumL_mem {ss : List String} {t : T} : ∀ {k : Nat}, t ∈ enumL k (ss.map fun s => .str (Str.ofString s)) → ∃ (i : Nat) (s : String), t = .tup [.int (i : Nat), .str (Str.ofString s)] := by
  induction ss with
  | nil => intro k h; cases h
  | cons s ss ih =>
    intro k h
    rcases List.mem_cons.mp h with rfl | h
    · exact ⟨k, s, rfl⟩
    · exact ih h
def g_child_slots : GT := fun ts K _ => ∃ t : Tm, ts = [t.T] ∧ t.ok ∧ K (.lst (t.hd.slots.map fun (i : Nat) => .sh (.int (i : Nat))))
theorem pl_child_slots (ts : List T) (K0 : O → Prop) (Z0 : ZX) (h : g_child_slots ts K0 Z0) : x_child_slots (endP K0 Z0) (TL.slots 3 ts) := by
  obtain ⟨⟨h, ps⟩, rfl, ok, hk⟩ := h
  unfold x_child_slots
  simp
  refine lcI ?_
  simp
  rw [layout_at]
  simp
  refine compFilt (f := slF) rfl (by rw [enumL_len]; cases h <;> simp [Hd.sorts]) ?_ fun t ht C E hC hE => ?_
  · rw [slF_all]
    exact hk
  · obtain ⟨i, s, rfl⟩ := enumL_mem ht
    simp
    by_cases e : s = "term"
    · subst e
      simp
      exact hE _ _ rfl rfl
    · simp [e]
      exact hC (by simp [slF, e]) _ rfl
/-! node_rows -/
abbrev NR := Tm × Option Nat × Nat × Nat
def NR.T (r : NR) : T := .tup [r.1.T, oI r.2.1, .int (r.2.2.1 : Nat), .int (r.2.2.2 : Nat)]
@[simp] theorem nrT_mk (t : Tm) (p : Option Nat) (d s : Nat) : NR.T (t, p, d, s) = .tup [t.T, oI p, .int (d : Nat), .int (s : Nat)] := rfl
mutual
def nk : Tm → Option Nat → Nat → Nat → Nat → List NR
  | .nd h ps, par, dp, sp, n => (.nd h ps, par, dp, sp) :: nks ps n (dp + 1) h.pre.length (n + 1)
def nks : List Tm → Nat → Nat → Nat → Nat → List NR
  | [], _, _, _, _ => []
  | p :: ps, par, dp, sp, n => nk p (some par) dp sp n ++ nks ps par dp (sp + 1) (n + p.sz)
end
mutual
theorem nk_len : ∀ (t : Tm) (par : Option Nat) (dp sp n : Nat), (nk t par dp sp n).length = t.sz
  | .nd h ps, _, _, _, _ => by simp [nk, nks_len ps]; omega
theorem nks_len : ∀ (ps : List Tm) (par dp sp n : Nat), (nks ps par dp sp n).length = Tms.sz ps
  | [], _, _, _, _ => rfl
  | p :: ps, _, _, _, _ => by simp [nks, nk_len p, nks_len ps]
end
def nstk : List NR → Nat → List NR
  | [], _ => []
  | (t, par, dp, sp) :: r, n => nk t par dp sp n ++ nstk r (n + t.sz)
/-- the children of a node as they wait -/
def kidsOf (par dp : Nat) : Nat → List Tm → List NR
  | _, [] => []
  | sp, p :: ps => (p, some par, dp, sp) :: kidsOf par dp (sp + 1) ps
theorem nstk_app (par dp : Nat) (r : List NR) : ∀ (ps : List Tm) (sp n : Nat), nstk (kidsOf par dp sp ps ++ r) n = nks ps par dp sp n ++ nstk r (n + Tms.sz ps)
  | [], sp, n => by simp [kidsOf, nks]
  | p :: ps, sp, n => by simp [kidsOf, nstk, nks, nstk_app par dp r ps, Nat.add_assoc]
theorem kidsOf_len (par dp : Nat) : ∀ (sp : Nat) (ps : List Tm), (kidsOf par dp sp ps).length = ps.length
  | _, [] => rfl
  | sp, p :: ps => by simp [kidsOf, kidsOf_len par dp (sp + 1) ps]
theorem kidsOf_get (par dp : Nat) : ∀ (sp : Nat) (ps : List Tm) (j : Nat), (kidsOf par dp sp ps)[j]? = ps[j]?.map fun p => (p, some par, dp, sp + j)
  | _, [], j => by simp [kidsOf]
  | sp, p :: ps, 0 => by simp [kidsOf]
  | sp, p :: ps, j + 1 => by
    simp [kidsOf, kidsOf_get par dp (sp + 1) ps j]
    cases ps[j]? <;> simp
    omega
def nrsz (st : List NR) : Nat := Tms.sz (st.map (·.1))
theorem kidsOf_fst (par dp : Nat) : ∀ (sp : Nat) (ps : List Tm), (kidsOf par dp sp ps).map (·.1) = ps
  | _, [] => rfl
  | sp, p :: ps => by simp [kidsOf, kidsOf_fst par dp (sp + 1) ps]
theorem ix_kid {h : Hd} {ps : List Tm} {j : Nat} {p : Tm} (e : ps[j]? = some p) (Q : O → Prop) : op2E ixT (Tm.nd h ps).T (.int ((h.pre.length + j : Nat) : Int)) (c := ⟨Q⟩) = Q (.sh p.T) := by
  rw [Tm.T, v_ix_tup, atI_nat, List.append_assoc, List.getElem?_append_right (by omega), Nat.add_sub_cancel_left, List.getElem?_append_left (by simp; exact (List.getElem?_eq_some_iff.mp e).1), tms_map, List.getElem?_map, e]
  rfl
end Rd
end TL

set_option maxHeartbeats 2000000
namespace TL
open PySem PySem.Spec PyProof.Rows L2
namespace Rd
theorem nstk_le : ∀ (l : List NR) (n : Nat), l.length ≤ (nstk l n).length
  | [], n => by simp [nstk]
  | (q, _, _, _) :: l, n => by
    have := nstk_le l (n + q.sz)
    have := sz_pos q
    simp [nstk, nk_len]
    omega
def g_node_rows : GT := fun ts K _ => ∃ t : Tm, ts = [t.T] ∧ t.ok ∧ t.sz ≤ 1000000 ∧ K (.lst ((nk t none 1 0 0).map fun r => .sh r.T))
theorem pl_node_rows (ts : List T) (K0 : O → Prop) (Z0 : ZX) (h : g_node_rows ts K0 Z0) : x_node_rows g_child_slots.pf (endP K0 Z0) (TL.slots 11 ts) := by
  obtain ⟨t, rfl, ok, hsz, hk⟩ := h
  unfold x_node_rows
  simp
  refine whI (fun m ρ => ∃ (st done : List NR) (x3 x4 x5 x6 x7 x8 x9 x10 : Option O), ρ = [some (.sh t.T), some (.lst (done.map fun r => .sh r.T)), some (.lst (st.reverse.map fun r => .sh r.T)), x3, x4, x5, x6, x7, x8, x9, x10] ∧
    (∀ r ∈ st, r.1.ok) ∧ nk t none 1 0 0 = done ++ nstk st done.length ∧ m = nrsz st) ⟨_, [(t, none, 1, 0)], [], none, none, none, none, none, none, none, none, by simp, by simpa using ok, by simp [nstk], rfl⟩ ?_
  rintro m ρ ⟨st, done, x3, x4, x5, x6, x7, x8, x9, x10, rfl, hok, hw, rfl⟩
  have hlen := congrArg List.length hw
  rw [nk_len, List.length_append] at hlen
  cases st with
  | nil =>
    simp [nstk] at hw
    simp
    rw [hw] at hk
    exact hk
  | cons r st =>
    obtain ⟨p, par, dp, sp⟩ := r
    obtain ⟨h, ps⟩ := p
    have okp : (Tm.nd h ps).ok := hok _ List.mem_cons_self
    have hl := (ok_nd.mp okp).1
    have hst := nstk_le st (done.length + (1 + Tms.sz ps))
    have hz2 : (nstk ((Tm.nd h ps, par, dp, sp) :: st) done.length).length = 1 + Tms.sz ps + (nstk st (done.length + (1 + Tms.sz ps))).length := by simp [nstk, nk_len]
    have har : ps.length ≤ 3 := by
      rw [hl]
      cases h <;> simp [Hd.ar]
    let E := kidsOf done.length (dp + 1) h.pre.length ps
    have hE : E.length = ps.length := kidsOf_len _ _ _ _
    simp
    refine ⟨by omega, _, rfl, okp, ?_⟩
    simp
    refine foI ?_
    simp
    refine forI (fun i ρ => ∃ x10, ρ = [some (.sh t.T), some (.lst ((done ++ [(Tm.nd h ps, par, dp, sp)]).map fun r => .sh r.T)), some (.lst ((st.reverse ++ E.reverse.take i).map fun r => .sh r.T)), some (.sh (NR.T (Tm.nd h ps, par, dp, sp))), some (.sh (Tm.nd h ps).T), some (.sh (oI par)), some (.sh (.int (dp : Nat))), some (.sh (.int (sp : Nat))), some (.sh (.int (done.length : Nat))), some (.sh (.lst (h.slots.map fun (i : Nat) => .int (i : Nat)))), x10]) ⟨x10, by simp⟩ ?_ ?_
    · rintro i u ρ hu ⟨y10, rfl⟩
      rw [← List.map_reverse, List.getElem?_map] at hu
      unfold Hd.slots at hu
      rw [← List.map_reverse, List.getElem?_map] at hu
      have hi : i < ps.length := by
        cases q : (List.range h.ar).reverse[i]? with
        | none => rw [q] at hu; cases hu
        | some z =>
          have := (List.getElem?_eq_some_iff.mp q).1
          simp at this
          omega
      have hrng : (List.range h.ar).reverse[i]? = some (ps.length - 1 - i) := by
        rw [List.getElem?_reverse (by simp; omega)]
        rw [List.getElem?_range (by simp; omega)]
        simp
        omega
      rw [hrng] at hu
      cases hu
      obtain ⟨p, hp⟩ : ∃ p, ps[ps.length - 1 - i]? = some p := ⟨ps[ps.length - 1 - i], List.getElem?_eq_getElem (by omega)⟩
      have hEi : E.reverse[i]? = some (p, some done.length, dp + 1, h.pre.length + (ps.length - 1 - i)) := by
        rw [List.getElem?_reverse (by omega), hE, kidsOf_get, hp]
        rfl
      have hx := ix_kid (h := h) hp
      have hle : (E.reverse.take i).length ≤ i := by rw [List.length_take]; omega
      rw [take_snoc hEi]
      simp
      simp at hx
      rw [hx]
      simp
      omega
    · rintro ρ ⟨y10, rfl⟩
      have full : E.reverse.take (List.map (fun (i : Nat) => T.int (i : Nat)) h.slots).reverse.length = E.reverse := by
        rw [List.take_of_length_le]
        simp [Hd.slots]
        omega
      rw [full]
      refine ⟨nrsz (E ++ st), ?_, E ++ st, done ++ [(Tm.nd h ps, par, dp, sp)], _, _, _, _, _, _, _, _, by rw [List.reverse_append], fun r hr => ?_, ?_, rfl⟩
      · unfold nrsz
        rw [List.map_append, kidsOf_fst, sz_app]
        simp
      · rcases List.mem_append.mp hr with hr | hr
        · have : r.1 ∈ E.map (·.1) := List.mem_map.mpr ⟨r, hr, rfl⟩
          rw [kidsOf_fst] at this
          exact ok_kids okp _ this
        · exact hok r (List.mem_cons_of_mem _ hr)
      · rw [hw, nstk_app]
        simp [nstk, nk, Nat.add_assoc]
/-! the small ones above it -/
def nmx (rows : List NR) : Nat := rows.foldl (fun d r => max d r.2.2.1) 0
theorem nmx_snoc (rows : List NR) (r : NR) : nmx (rows ++ [r]) = max (nmx rows) r.2.2.1 := by unfold nmx; rw [List.foldl_append]; rfl
def rows0 (t : Tm) : List NR := nk t none 1 0 0
@[simp] theorem rows0_len (t : Tm) : (rows0 t).length = t.sz := nk_len _ _ _ _ _
def g_node_count : GT := fun ts K _ => ∃ t : Tm, ts = [t.T] ∧ t.ok ∧ t.sz ≤ 1000000 ∧ K (.sh (.int (t.sz : Nat)))
theorem pl_node_count (ts : List T) (K0 : O → Prop) (Z0 : ZX) (h : g_node_count ts K0 Z0) : x_node_count g_node_rows.pf (endP K0 Z0) (TL.slots 1 ts) := by
  obtain ⟨t, rfl, ok, hs, hk⟩ := h
  unfold x_node_count
  simp
  refine ⟨t, rfl, ok, hs, ?_⟩
  simp [nk_len]
  exact hk
def g_term_depth : GT := fun ts K _ => ∃ t : Tm, ts = [t.T] ∧ t.ok ∧ t.sz ≤ 1000000 ∧ K (.sh (.int (nmx (rows0 t) : Nat)))
theorem pl_term_depth (ts : List T) (K0 : O → Prop) (Z0 : ZX) (h : g_term_depth ts K0 Z0) : x_term_depth g_node_rows.pf (endP K0 Z0) (TL.slots 6 ts) := by
  obtain ⟨t, rfl, ok, hs, hk⟩ := h
  unfold x_term_depth
  simp
  refine foI ?_
  simp
  refine ⟨t, rfl, ok, hs, ?_⟩
  simp
  refine forI (fun i ρ => ∃ x2 x3 x4 x5, ρ = [some (.sh t.T), some (.sh (.int (nmx ((rows0 t).take i) : Nat))), x2, x3, x4, x5]) ⟨_, _, _, _, rfl⟩ ?_ ?_
  · rintro i u ρ hu ⟨x2, x3, x4, x5, rfl⟩
    rw [List.getElem?_map] at hu
    cases hr : (rows0 t)[i]? with
    | none =>
      rw [show nk t none 1 0 0 = rows0 t from rfl, hr] at hu
      cases hu
    | some r =>
      rw [show nk t none 1 0 0 = rows0 t from rfl, hr] at hu
      cases hu
      rw [take_snoc hr, nmx_snoc]
      obtain ⟨p, par, dp, sp⟩ := r
      simp
      by_cases e : nmx ((rows0 t).take i) < dp
      · simp [e]
        omega
      · simp [e]
        omega
  · rintro ρ ⟨x2, x3, x4, x5, rfl⟩
    rw [List.length_map, show nk t none 1 0 0 = rows0 t from rfl, List.take_length]
    simpa using hk
def g_rows_with (ga : Str → Addr) : GT := fun ts K Z => ∃ (t : Tm) (j : Int), ts = [t.T, .int j] ∧ t.ok ∧ t.sz ≤ 1000000 ∧ ((0 ≤ j ∧ j < t.sz) → K (.sh (.lst ((rows0 t).map NR.T)))) ∧ (¬ (0 ≤ j ∧ j < t.sz) → Z (ga "NotThere") ["number"] [.int j])
theorem pl_rows_with (ga : Str → Addr) (ts : List T) (K0 : O → Prop) (Z0 : ZX) (h : g_rows_with ga ts K0 Z0) : x_rows_with g_node_rows.pf ga (endP K0 Z0) (TL.slots 3 ts) := by
  obtain ⟨t, j, rfl, ok, hs, h1, h2⟩ := h
  unfold x_rows_with
  simp
  refine ⟨t, rfl, ok, hs, ?_⟩
  simp [nk_len]
  by_cases e : 0 ≤ j
  · by_cases f : j < t.sz
    · simp [e, f, nk_len]
      exact h1 ⟨e, f⟩
    · simp [e, f, nk_len]
      exact h2 fun z => f z.2
  · simp [e]
    exact h2 fun z => e z.1
end Rd
end TL

set_option maxHeartbeats 2000000
namespace TL
open PySem PySem.Spec PyProof.Rows L2
namespace Rd
/-! replaced_depth -/
def ddp (rows : List NR) (j : Nat) : Nat := (rows[j]?.map fun r => r.2.2.1).getD 0
def rdF (rows : List NR) (node size : Nat) (d j : Nat) : Nat := if node ≤ j ∧ j < node + size then d else max d (ddp rows j)
def rdp (rows : List NR) (node size d0 i : Nat) : Nat := (List.range i).foldl (rdF rows node size) d0
theorem rdp_succ (rows : List NR) (node size d0 i : Nat) : rdp rows node size d0 (i + 1) = rdF rows node size (rdp rows node size d0 i) i := by
  unfold rdp
  rw [List.range_succ, List.foldl_append]
  rfl
def g_replaced_depth : GT := fun ts K _ => ∃ (rows : List NR) (node size : Nat) (o : Tm), ts = [.lst (rows.map NR.T), .int (node : Nat), .int (size : Nat), o.T] ∧ node < rows.length ∧ 1 ≤ ddp rows node ∧ o.ok ∧ o.sz ≤ 1000000 ∧
  K (.sh (.int (rdp rows node size (ddp rows node - 1 + nmx (rows0 o)) rows.length : Nat)))
theorem pl_replaced_depth (ts : List T) (K0 : O → Prop) (Z0 : ZX) (h : g_replaced_depth ts K0 Z0) : x_replaced_depth g_term_depth.pf (endP K0 Z0) (TL.slots 11 ts) := by
  obtain ⟨rows, node, size, o, rfl, hn, h1, ok, hs, hk⟩ := h
  obtain ⟨r, hr⟩ : ∃ r, rows[node]? = some r := ⟨rows[node], List.getElem?_eq_getElem hn⟩
  have hd : ddp rows node = r.2.2.1 := by unfold ddp; rw [hr]; rfl
  unfold x_replaced_depth
  simp [hr]
  obtain ⟨p, par, dp, sp⟩ := r
  simp
  refine ⟨o, rfl, ok, hs, ?_⟩
  simp
  refine foI ?_
  simp
  have e0 : ((dp : Int) - 1 + (nmx (rows0 o) : Int)) = ((ddp rows node - 1 + nmx (rows0 o) : Nat) : Int) := by
    rw [hd] at h1 ⊢
    show ((dp : Int) - 1 + (nmx (rows0 o) : Int)) = ((dp - 1 + nmx (rows0 o) : Nat) : Int)
    have : 1 ≤ dp := h1
    omega
  refine forI (fun i ρ => ∃ x5 x6 x7 x8 x9 x10, ρ = [some (.sh (.lst (rows.map NR.T))), some (.sh (.int (node : Nat))), some (.sh (.int (size : Nat))), some (.sh o.T), some (.sh (.int (rdp rows node size (ddp rows node - 1 + nmx (rows0 o)) i : Nat))), x5, x6, x7, x8, x9, x10]) ⟨_, _, _, _, _, _, by rw [e0]; rfl⟩ ?_ ?_
  · rintro i u ρ hu ⟨x5, x6, x7, x8, x9, x10, rfl⟩
    rw [enumL_get, List.getElem?_map] at hu
    cases hq : rows[i]? with
    | none => rw [hq] at hu; cases hu
    | some q =>
      rw [hq] at hu
      cases hu
      have hdq : ddp rows i = q.2.2.1 := by unfold ddp; rw [hq]; rfl
      obtain ⟨pq, parq, dq, sq⟩ := q
      have hdq' : ddp rows i = dq := hdq
      rw [rdp_succ]
      unfold rdF
      rw [hdq']
      simp
      by_cases a1 : node ≤ i
      · by_cases a2 : i < node + size
        · have a2' : (i : Int) < (node : Int) + (size : Int) := by omega
          simp [a1, a2, a2']
        · have a2' : ¬ (i : Int) < (node : Int) + (size : Int) := by omega
          simp [a1, a2, a2']
          by_cases a3 : rdp rows node size (ddp rows node - 1 + nmx (rows0 o)) i < dq
          · simp [a3, a1, a2]
            omega
          · simp [a3, a1, a2]
            omega
      · simp [a1]
        by_cases a3 : rdp rows node size (ddp rows node - 1 + nmx (rows0 o)) i < dq
        · simp [a3, a1]
          omega
        · simp [a3, a1]
          omega
  · rintro ρ ⟨x5, x6, x7, x8, x9, x10, rfl⟩
    rw [enumL_len, List.length_map]
    simpa using hk
/-! a node and the one above it -/
mutual
def rep : Tm → Nat → Tm → Tm
  | .nd _ _, 0, o => o
  | .nd h ps, k + 1, o => .nd h (reps ps k o)
def reps : List Tm → Nat → Tm → List Tm
  | [], _, _ => []
  | p :: ps, k, o => if k < p.sz then rep p k o :: ps else p :: reps ps (k - p.sz) o
end
theorem rep_0 (t o : Tm) : rep t 0 o = o := by
  obtain ⟨h, ps⟩ := t
  rw [rep]
theorem reps_at (o : Tm) : ∀ (ps : List Tm) (j k : Nat) (p : Tm), ps[j]? = some p → k < p.sz → reps ps (Tms.sz (ps.take j) + k) o = ps.set j (rep p k o)
  | [], j, k, p, h, _ => by simp at h
  | q :: ps, 0, k, p, h, hk => by
    simp at h
    subst h
    simp [reps, hk]
  | q :: ps, j + 1, k, p, h, hk => by
    simp at h
    have e0 : Tms.sz ((q :: ps).take (j + 1)) + k = q.sz + Tms.sz (ps.take j) + k := by simp
    rw [e0, reps, if_neg (by omega), show q.sz + Tms.sz (ps.take j) + k - q.sz = Tms.sz (ps.take j) + k by omega, reps_at o ps j k p h hk]
    rfl
/-- row i stands in rows and has its parent there -/
def UpOk (rows : List NR) (n i : Nat) (u : Tm) (q s : Nat) : Prop := ∃ iq h ps par d' s' j, q = n + iq ∧ iq < i ∧ rows[iq]? = some (.nd h ps, par, d', s') ∧ ps[j]? = some u ∧ s = h.pre.length + j ∧ i = iq + 1 + Tms.sz (ps.take j)
theorem UpOk.left {a b : List NR} {n i q s : Nat} {u : Tm} (h : UpOk a n i u q s) : UpOk (a ++ b) n i u q s := by
  obtain ⟨iq, h, ps, par, d', s', j, e1, e2, e3, e4, e5, e6⟩ := h
  exact ⟨iq, h, ps, par, d', s', j, e1, e2, by rw [List.getElem?_append_left (List.getElem?_eq_some_iff.mp e3).1]; exact e3, e4, e5, e6⟩
theorem UpOk.right {a b : List NR} {n i q s : Nat} {u : Tm} (h : UpOk b (n + a.length) i u q s) : UpOk (a ++ b) n (a.length + i) u q s := by
  obtain ⟨iq, h, ps, par, d', s', j, e1, e2, e3, e4, e5, e6⟩ := h
  exact ⟨a.length + iq, h, ps, par, d', s', j, by omega, by omega, by rw [List.getElem?_append_right (by omega), Nat.add_sub_cancel_left]; exact e3, e4, e5, by omega⟩
mutual
theorem nk_up : ∀ (t : Tm) (par : Option Nat) (dp sp n i : Nat) (u : Tm) (pq : Option Nat) (d s : Nat), (nk t par dp sp n)[i]? = some (u, pq, d, s) →
    i + u.sz ≤ t.sz ∧ ((i = 0 ∧ u = t ∧ pq = par ∧ d = dp ∧ s = sp) ∨ (0 < i ∧ ∃ q, pq = some q ∧ UpOk (nk t par dp sp n) n i u q s))
  | .nd h ps, par, dp, sp, n, 0, u, pq, d, s, e => by
    rw [nk] at e
    simp at e
    obtain ⟨rfl, rfl, rfl, rfl⟩ := e
    simp
  | .nd h ps, par, dp, sp, n, i + 1, u, pq, d, s, e => by
    rw [nk] at e
    simp only [List.getElem?_cons_succ] at e
    have ih := nks_up ps n (dp + 1) h.pre.length (n + 1) i u pq d s e
    refine ⟨by simp; omega, .inr ⟨by omega, ?_⟩⟩
    obtain ⟨_, q, rfl, ih⟩ := ih
    refine ⟨q, rfl, ?_⟩
    rw [nk]
    rcases ih with ⟨j, e1, e2, e3, e4⟩ | ih
    · exact ⟨0, h, ps, par, dp, sp, j, by omega, by omega, rfl, e1, e3, by omega⟩
    · obtain ⟨iq, h', ps', par', d', s', j, e1, e2, e3, e4, e5, e6⟩ := ih
      exact ⟨iq + 1, h', ps', par', d', s', j, by omega, by omega, by simpa using e3, e4, e5, by omega⟩
theorem nks_up : ∀ (ps : List Tm) (par dp sp n i : Nat) (u : Tm) (pq : Option Nat) (d s : Nat), (nks ps par dp sp n)[i]? = some (u, pq, d, s) →
    i + u.sz ≤ Tms.sz ps ∧ ∃ q, pq = some q ∧ ((∃ j, ps[j]? = some u ∧ q = par ∧ s = sp + j ∧ i = Tms.sz (ps.take j)) ∨ UpOk (nks ps par dp sp n) n i u q s)
  | [], par, dp, sp, n, i, u, pq, d, s, e => by rw [nks] at e; simp at e
  | p :: ps, par, dp, sp, n, i, u, pq, d, s, e => by
    rw [nks] at e ⊢
    by_cases hi : i < p.sz
    · rw [List.getElem?_append_left (by rw [nk_len]; exact hi)] at e
      obtain ⟨h1, h2⟩ := nk_up p (some par) dp sp n i u pq d s e
      refine ⟨by simp; omega, ?_⟩
      rcases h2 with ⟨rfl, rfl, rfl, rfl, rfl⟩ | ⟨h0, q, rfl, h2⟩
      · exact ⟨par, rfl, .inl ⟨0, by simp, rfl, by simp, by simp⟩⟩
      · exact ⟨q, rfl, .inr h2.left⟩
    · rw [List.getElem?_append_right (by rw [nk_len]; omega), nk_len] at e
      obtain ⟨h1, q, rfl, h2⟩ := nks_up ps par dp (sp + 1) (n + p.sz) (i - p.sz) u pq d s e
      refine ⟨by simp; omega, q, rfl, ?_⟩
      rcases h2 with ⟨j, e1, e2, e3, e4⟩ | h2
      · exact .inl ⟨j + 1, by simpa using e1, e2, by omega, by simp; omega⟩
      · have := UpOk.right (a := nk p (some par) dp sp n) (b := nks ps par dp (sp + 1) (n + p.sz)) (n := n) (by rw [nk_len]; exact h2)
        rw [nk_len, show p.sz + (i - p.sz) = i by omega] at this
        exact .inr this
end
end Rd
end TL

set_option maxHeartbeats 2000000
namespace TL
open PySem PySem.Spec PyProof.Rows L2
namespace Rd
/-! depths -/
theorem dep_pos (t : Tm) : 1 ≤ t.dep := by
  obtain ⟨h, ps⟩ := t
  rw [Tm.dep]
  omega
/-- how deep below level lv -/
def hi (lv k : Nat) : Nat := if k = 0 then 0 else lv - 1 + k
theorem hi_max (lv a b : Nat) : hi lv (max a b) = max (hi lv a) (hi lv b) := by
  unfold hi
  by_cases h1 : a = 0 <;> by_cases h2 : b = 0 <;> simp [h1, h2] <;> (try split) <;> omega
theorem hi_succ {lv : Nat} (k : Nat) (h : 1 ≤ lv) : max lv (hi (lv + 1) k) = lv - 1 + (1 + k) := by
  unfold hi
  split <;> omega
theorem hi_dep {lv : Nat} (t : Tm) : hi lv t.dep = lv - 1 + t.dep := by
  have := dep_pos t
  unfold hi
  rw [if_neg (by omega)]
@[simp] theorem hi_0 (lv : Nat) : hi lv 0 = 0 := rfl
theorem dep_nd (h : Hd) (ps : List Tm) : (Tm.nd h ps).dep = 1 + Tms.dep ps := by rw [Tm.dep]
theorem deps_cons (p : Tm) (ps : List Tm) : Tms.dep (p :: ps) = max p.dep (Tms.dep ps) := by rw [Tms.dep]
@[simp] theorem deps_nil : Tms.dep [] = 0 := by rw [Tms.dep]
mutual
theorem wk_dep : ∀ (t : Tm) (lv n : Nat) (sc : Sc) (d : Nat), 1 ≤ lv → (wk t lv n sc).foldl (fun d r => max d r.2.1) d = max d (hi lv t.dep)
  | .nd h ps, lv, n, sc, d, hl => by
    rw [wk, List.foldl_cons, wks_dep ps _ _ _ _ (by omega), hi_dep, dep_nd, ← hi_succ _ hl, Nat.max_assoc]
theorem wks_dep : ∀ (ps : List Tm) (lv n : Nat) (sc : Sc) (d : Nat), 1 ≤ lv → (wks ps lv n sc).foldl (fun d r => max d r.2.1) d = max d (hi lv (Tms.dep ps))
  | [], lv, n, sc, d, hl => by simp [wks]
  | p :: ps, lv, n, sc, d, hl => by
    rw [wks, List.foldl_append, wk_dep p _ _ _ _ hl, wks_dep ps _ _ _ _ hl, deps_cons, hi_max, Nat.max_assoc]
end
theorem mx_dep (t : Tm) : mx (wk t 1 0 []) = t.dep := by
  unfold mx
  rw [wk_dep t 1 0 [] 0 (by omega), hi_dep]
  omega
mutual
theorem nk_dep : ∀ (t : Tm) (par : Option Nat) (lv s n : Nat) (d : Nat), 1 ≤ lv → (nk t par lv s n).foldl (fun d r => max d r.2.2.1) d = max d (hi lv t.dep)
  | .nd h ps, par, lv, s, n, d, hl => by
    rw [nk, List.foldl_cons, nks_dep ps _ _ _ _ _ (by omega), hi_dep, dep_nd, ← hi_succ _ hl, Nat.max_assoc]
theorem nks_dep : ∀ (ps : List Tm) (par lv s n : Nat) (d : Nat), 1 ≤ lv → (nks ps par lv s n).foldl (fun d r => max d r.2.2.1) d = max d (hi lv (Tms.dep ps))
  | [], par, lv, s, n, d, hl => by simp [nks]
  | p :: ps, par, lv, s, n, d, hl => by
    rw [nks, List.foldl_append, nk_dep p _ _ _ _ _ hl, nks_dep ps _ _ _ _ _ hl, deps_cons, hi_max, Nat.max_assoc]
end
theorem nmx_dep (t : Tm) : nmx (rows0 t) = t.dep := by
  unfold nmx rows0
  rw [nk_dep t none 1 0 0 0 (by omega), hi_dep]
  omega
theorem lookup_inn (h : Hd) (n : Nat) (sc : Sc) (x : Str) : (inn h n sc).lookup x = (match h with | .fn y => if x = y then some n else sc.lookup x | _ => sc.lookup x) := by
  cases h <;> first
    | rfl
    | (rename_i y
       show List.lookup x ((y, n) :: sc) = _
       rw [List.lookup_cons]
       by_cases e : x = y
       · simp [e]
       · simp [e, show (x == y) = false by simpa using e])
def bnd (h : Hd) (x : Str) : Bool := match h with
  | .fn y => decide (y = x)
  | _ => false
theorem inn_look (h : Hd) (n : Nat) (sc : Sc) (x : Str) : ((inn h n sc).lookup x).isNone = (!bnd h x && (sc.lookup x).isNone) := by
  rw [lookup_inn]
  cases h <;> first
    | rfl
    | (rename_i y
       by_cases e : x = y
       · simp [e, bnd]
       · simp [e, bnd, show ¬ y = x from fun z => e z.symm])
theorem hit_nam (x y : Str) (ps : List Tm) (lv : Nat) (sc : Sc) : hit x (Tm.nd (.nam y) ps, lv, sc) = ((sc.lookup y).isNone && decide (y = x)) := rfl
theorem bnd_fn {h : Hd} {x : Str} (e : bnd h x = true) : h = .fn x := by
  cases h <;> first
    | cases e
    | (rename_i y
       have : y = x := by simpa [bnd] using e
       rw [this])
/-- sub at a node -/
theorem sub_nam (x : Str) (c : Tm) (y : Str) (ps : List Tm) : sub x c (.nd (.nam y) ps) = if y = x then c else .nd (.nam y) ps := by rw [sub]
theorem sub_fnx (x : Str) (c : Tm) (ps : List Tm) : sub x c (.nd (.fn x) ps) = .nd (.fn x) ps := by simp [sub]
theorem sub_in {h : Hd} (x : Str) (c : Tm) (ps : List Tm) (h1 : ∀ y, h ≠ .nam y) (h2 : h ≠ .fn x) : sub x c (.nd h ps) = .nd h (subs x c ps) := by
  cases h <;> first
    | exact absurd rfl (h1 _)
    | (simp [sub]; done)
    | (rename_i y
       have : ¬ y = x := fun z => h2 (by rw [z])
       simp [sub, this])
mutual
theorem sd_at (x : Str) (c : Tm) : ∀ (t : Tm) (lv n : Nat) (sc : Sc) (d : Nat), 1 ≤ lv → t.ok → (wk t lv n sc).foldl (sdF x c.dep) d = max d (hi lv (if (sc.lookup x).isNone then (sub x c t).dep else t.dep))
  | .nd h ps, lv, n, sc, d, hl, ok => by
    have hps := ok_nd.mp ok
    rw [wk, List.foldl_cons, sds_at x c ps _ _ _ _ (by omega) hps.2.2]
    by_cases e : ∃ y, h = .nam y
    · obtain ⟨y, rfl⟩ := e
      obtain rfl := len0 hps.1
      rw [sub_nam]
      have e1 : (Tm.nd (.nam y) []).dep = 1 := by simp [dep_nd]
      have e0 : hi lv 1 = lv := by unfold hi; simp; omega
      cases q : (sc.lookup x).isNone with
      | false =>
        have hh : hit x (Tm.nd (.nam y) [], lv, sc) = false := by
          rw [hit_nam]
          by_cases e2 : y = x
          · subst e2
            rw [q]
            rfl
          · simp [e2]
        unfold sdF
        rw [hh]
        simp [subs, e1, e0]
      | true =>
        by_cases e2 : y = x
        · subst e2
          have hh : hit y (Tm.nd (.nam y) [], lv, sc) = true := by rw [hit_nam, q]; simp
          unfold sdF
          rw [hh]
          simp [subs, hi_dep]
        · have hh : hit x (Tm.nd (.nam y) [], lv, sc) = false := by rw [hit_nam]; simp [e2]
          unfold sdF
          rw [hh]
          simp [subs, e1, e0, e2]
    · have hh : hit x (Tm.nd h ps, lv, sc) = false := by
        unfold hit free
        cases h <;> first
          | rfl
          | exact absurd ⟨_, rfl⟩ e
      have h1 : sdF x c.dep d (Tm.nd h ps, lv, sc) = max d lv := by unfold sdF; rw [hh]; rfl
      rw [h1, inn_look, Nat.max_assoc]
      congr 1
      have e0 : ∀ qs : List Tm, hi lv (Tm.nd h qs).dep = max lv (hi (lv + 1) (Tms.dep qs)) := fun qs => by rw [hi_dep, dep_nd, hi_succ _ hl]
      cases f : bnd h x with
      | true =>
        obtain rfl := bnd_fn f
        rw [sub_fnx]
        simp [e0]
      | false =>
        rw [sub_in x c ps (fun y z => e ⟨y, z⟩) fun z => by subst z; simp [bnd] at f]
        simp only [Bool.not_false, Bool.true_and]
        split <;> rw [e0]
theorem sds_at (x : Str) (c : Tm) : ∀ (ps : List Tm) (lv n : Nat) (sc : Sc) (d : Nat), 1 ≤ lv → Tms.ok ps → (wks ps lv n sc).foldl (sdF x c.dep) d = max d (hi lv (if (sc.lookup x).isNone then Tms.dep (subs x c ps) else Tms.dep ps))
  | [], lv, n, sc, d, hl, ok => by simp [wks, subs]
  | p :: ps, lv, n, sc, d, hl, ok => by
    rw [Tms.ok] at ok
    rw [wks, List.foldl_append, sd_at x c p _ _ _ _ hl ok.1, sds_at x c ps _ _ _ _ hl ok.2, subs, deps_cons, deps_cons, Nat.max_assoc, ← hi_max]
    split <;> rfl
end
theorem sd_dep {t c : Tm} {x : Str} (ok : t.ok) : sd t x c = (sub x c t).dep := by
  unfold sd
  rw [mx_dep, sd_at x c t 1 0 [] 0 (by omega) ok]
  simp [hi_dep]
mutual
theorem ss_at (x : Str) (c : Tm) : ∀ (t : Tm) (lv n : Nat) (sc : Sc) (s : Nat), t.ok → (wk t lv n sc).foldl (ssF x c.sz) s = s + (if (sc.lookup x).isNone then (sub x c t).sz else t.sz)
  | .nd h ps, lv, n, sc, s, ok => by
    have hps := ok_nd.mp ok
    rw [wk, List.foldl_cons, sss_at x c ps _ _ _ _ hps.2.2]
    by_cases e : ∃ y, h = .nam y
    · obtain ⟨y, rfl⟩ := e
      obtain rfl := len0 hps.1
      rw [sub_nam]
      unfold ssF
      rw [hit_nam]
      by_cases e2 : y = x
      · subst e2
        cases q : (sc.lookup y).isNone <;> simp [subs]
      · simp [subs, e2]
    · have hh : hit x (Tm.nd h ps, lv, sc) = false := by
        unfold hit free
        cases h <;> first
          | rfl
          | exact absurd ⟨_, rfl⟩ e
      have h1 : ssF x c.sz s (Tm.nd h ps, lv, sc) = s + 1 := by unfold ssF; rw [hh]; rfl
      rw [h1, inn_look]
      cases f : bnd h x with
      | true =>
        obtain rfl := bnd_fn f
        rw [sub_fnx]
        simp
        omega
      | false =>
        rw [sub_in x c ps (fun y z => e ⟨y, z⟩) fun z => by subst z; simp [bnd] at f]
        simp only [Bool.not_false, Bool.true_and]
        split <;> simp <;> omega
theorem sss_at (x : Str) (c : Tm) : ∀ (ps : List Tm) (lv n : Nat) (sc : Sc) (s : Nat), Tms.ok ps → (wks ps lv n sc).foldl (ssF x c.sz) s = s + (if (sc.lookup x).isNone then Tms.sz (subs x c ps) else Tms.sz ps)
  | [], lv, n, sc, s, ok => by simp [wks, subs]
  | p :: ps, lv, n, sc, s, ok => by
    rw [Tms.ok] at ok
    rw [wks, List.foldl_append, ss_at x c p _ _ _ _ ok.1, sss_at x c ps _ _ _ _ ok.2]
    simp [subs]
    split <;> omega
end
theorem ss_sz {t c : Tm} {x : Str} (ok : t.ok) : ss t x c = (sub x c t).sz := by
  unfold ss
  rw [ss_at x c t 1 0 [] 0 ok]
  simp
theorem rm_is {u : Tm} (ok : u.ok) (hr : Rdx u) : rm u = ((root u).dep, (root u).sz) := by
  cases hr with
  | app x b c hc =>
    have o1 : (Tm.nd (.fn x) [b]).ok := ok_kids ok _ (by simp)
    have ob : b.ok := ok_kids o1 b (by simp)
    show (sd b x c, ss b x c) = _
    rw [sd_dep ob, ss_sz ob]
    rfl
  | _ => rw [rm, mx_dep] <;> simp
end Rd
end TL

set_option maxHeartbeats 2000000
namespace TL
open PySem PySem.Spec PyProof.Rows L2
namespace Rd
/-! with_term -/
@[simp] theorem sl_nd (h : Hd) (ps : List Tm) (lo hi : Option Int) (Q : O → Prop) : sliE (Tm.nd h ps).T lo hi (c := ⟨Q⟩) = Q (.sh (.tup (cutL (h.pre ++ Tms.T ps ++ h.post) lo hi))) := by
  rw [Tm.T]
  simp
theorem cut_lo (h : Hd) (ps : List Tm) (j : Nat) (hj : j ≤ ps.length) : cutL (h.pre ++ Tms.T ps ++ h.post) none (some (((h.pre.length + j : Nat)) : Int)) = h.pre ++ Tms.T (ps.take j) := by
  rw [cutL_to, List.append_assoc, List.take_append, List.take_of_length_le (by omega), Nat.add_sub_cancel_left, List.take_append_of_le_length (by simp; omega)]
  simp [tms_map, List.map_take]
theorem cut_hi (h : Hd) (ps : List Tm) (j : Nat) (hj : j < ps.length) : cutL (h.pre ++ Tms.T ps ++ h.post) (some (((h.pre.length + j : Nat) : Int) + 1)) none = Tms.T (ps.drop (j + 1)) ++ h.post := by
  have e : ((h.pre.length + j : Nat) : Int) + 1 = ((h.pre.length + (j + 1) : Nat) : Int) := by omega
  rw [e, cutL_from, List.append_assoc, List.drop_append, List.drop_of_length_le (by omega), Nat.add_sub_cancel_left, List.drop_append_of_le_length (by simp; omega)]
  simp [tms_map, List.map_drop]
theorem set_mid {ps : List Tm} {j : Nat} (hj : j < ps.length) (x : Tm) : Tms.T (ps.set j x) = Tms.T (ps.take j) ++ [x.T] ++ Tms.T (ps.drop (j + 1)) := by
  rw [List.set_eq_take_append_cons_drop, if_pos hj, tms_app]
  simp
def g_with_term (ga : Str → Addr) : GT := fun ts K _ => ∃ (t : Tm) (j : Nat) (u o : Tm) (pq : Option Nat) (d s : Nat), ts = [t.T, .int (j : Nat), o.T] ∧ t.ok ∧ t.sz ≤ 1000000 ∧ o.ok ∧ o.sz ≤ 1000000 ∧ (rows0 t)[j]? = some (u, pq, d, s) ∧ u.ok ∧ 1 ≤ d ∧
  rdp (rows0 t) j u.sz (d - 1 + nmx (rows0 o)) t.sz ≤ 40 ∧ t.sz - u.sz + o.sz ≤ 300 ∧ K (.sh (rep t j o).T)
theorem pl_with_term (ga : Str → Addr) (ts : List T) (K0 : O → Prop) (Z0 : ZX) (h : g_with_term ga ts K0 Z0) : x_with_term (g_rows_with ga).pf g_node_count.pf g_replaced_depth.pf ga (endP K0 Z0) (TL.slots 12 ts) := by
  obtain ⟨t, j, u, o, pq, d, s, rfl, ok, hs, oko, hso, hr, oku, hd1, hdp, hsz, hk⟩ := h
  have hj : j < t.sz := by
    have := (List.getElem?_eq_some_iff.mp hr).1
    rwa [rows0_len] at this
  have hju := (nk_up t none 1 0 0 j u pq d s hr).1
  have hdd : ddp (rows0 t) j = d := by unfold ddp; rw [hr]; rfl
  unfold x_with_term
  simp -implicitDefEqProofs
  refine ⟨t, (j : Nat), rfl, ok, hs, fun _ => ?_, fun z => absurd ⟨by omega, by omega⟩ z⟩
  simp -implicitDefEqProofs [hr]
  refine ⟨u, rfl, oku, by omega, ?_⟩
  simp -implicitDefEqProofs
  refine ⟨rows0 t, j, u.sz, o, rfl, by simpa using hj, by rw [hdd]; exact hd1, oko, hso, ?_⟩
  rw [hdd, rows0_len]
  have hdp' : ¬ (40 : Int) < (rdp (rows0 t) j u.sz (d - 1 + nmx (rows0 o)) t.sz : Nat) := by omega
  simp -implicitDefEqProofs [hdp']
  refine ⟨o, rfl, oko, hso, ?_⟩
  have hsz' : ¬ (300 : Int) < (t.sz : Int) - (u.sz : Int) + (o.sz : Int) := by omega
  simp -implicitDefEqProofs [hsz']
  refine whI (fun m ρ => ∃ (i : Nat) (v : Tm) (pv : Option Nat) (dv sv : Nat) (x7 x8 x9 x10 x11 : Option O), ρ = [some (.sh t.T), some (.sh (.int (j : Nat))), some (.sh o.T), some (.sh (.lst ((rows0 t).map NR.T))), some (.sh (.int (u.sz : Nat))), some (.sh (rep v (j - i) o).T), some (.sh (.int (i : Nat))), x7, x8, x9, x10, x11] ∧
    (rows0 t)[i]? = some (v, pv, dv, sv) ∧ i ≤ j ∧ j < i + v.sz ∧ i = m) ⟨j, j, u, pq, d, s, none, none, none, none, none, by rw [Nat.sub_self, rep_0], hr, Nat.le_refl _, by have := sz_pos u; omega, rfl⟩ ?_
  rintro m ρ ⟨i, v, pv, dv, sv, x7, x8, x9, x10, x11, rfl, hv, hij, hjv, rfl⟩
  simp -implicitDefEqProofs [hv]
  obtain ⟨_, hup⟩ := nk_up t none 1 0 0 i v pv dv sv hv
  rcases hup with ⟨rfl, rfl, rfl, -, -⟩ | ⟨h0, q, rfl, hup⟩
  · simp -implicitDefEqProofs
    simpa using hk
  · obtain ⟨iq, h, ps, par, d', s', jj, e1, e2, e3, e4, e5, e6⟩ := hup
    obtain rfl : iq = q := by omega
    have e3' : (rows0 t)[iq]? = some (.nd h ps, par, d', s') := e3
    have hjl : jj < ps.length := (List.getElem?_eq_some_iff.mp e4).1
    have hclo := cut_lo h ps jj (by omega)
    have hchi := cut_hi h ps jj hjl
    have hpl : h.pre.length ≤ 2 := by cases h <;> simp [Hd.pre]
    have hql : h.post.length ≤ 1 := by cases h <;> simp [Hd.post]
    have hps : ps.length ≤ t.sz := by
      have h1 := (nk_up t none 1 0 0 iq (.nd h ps) par d' s' e3).1
      have h2 : ∀ l : List Tm, l.length ≤ Tms.sz l := fun l => by
        induction l with
        | nil => simp
        | cons a l ih => have := sz_pos a; simp; omega
      have := h2 ps
      simp at h1
      omega
    have hmade : rep (.nd h ps) (j - iq) o = .nd h (ps.set jj (rep v (j - i) o)) := by
      rw [show j - iq = (Tms.sz (ps.take jj) + (j - i)) + 1 by omega, rep, reps_at o ps jj (j - i) v e4 (by omega)]
    subst e5
    simp -implicitDefEqProofs [hv, e3']
    simp at hclo hchi
    rw [hclo]
    simp -implicitDefEqProofs
    refine ⟨by omega, ?_⟩
    rw [hchi]
    simp -implicitDefEqProofs
    refine ⟨by omega, iq, by omega, ?_⟩
    have hszn : (Tm.nd h ps).sz = 1 + Tms.sz ps := rfl
    have hsub : Tms.sz (ps.take jj) + v.sz ≤ Tms.sz ps := by
      have e := List.take_append_drop jj ps
      have e2 : ps.drop jj = v :: ps.drop (jj + 1) := by
        rw [List.drop_eq_getElem_cons hjl]
        congr 1
        have := List.getElem?_eq_getElem hjl
        rw [e4] at this
        exact (Option.some.inj this).symm
      have e3 := congrArg Tms.sz e
      rw [sz_app, e2] at e3
      simp at e3
      omega
    refine ⟨iq, .nd h ps, ⟨?_, rfl⟩, ⟨_, _, _, e3'⟩, by omega, by rw [hszn]; omega, rfl⟩
    rw [hmade, Tm.T, set_mid hjl]
    simp -implicitDefEqProofs
/-! reduced_at -/
mutual
theorem wk_nk : ∀ (t : Tm) (par : Option Nat) (lv s n : Nat) (sc : Sc), (wk t lv n sc).map (fun r => (r.1, r.2.1)) = (nk t par lv s n).map fun r => (r.1, r.2.2.1)
  | .nd h ps, par, lv, s, n, sc => by
    rw [wk, nk, List.map_cons, List.map_cons, wks_nks ps n (lv + 1) h.pre.length (n + 1)]
theorem wks_nks : ∀ (ps : List Tm) (par lv s n : Nat) (sc : Sc), (wks ps lv n sc).map (fun r => (r.1, r.2.1)) = (nks ps par lv s n).map fun r => (r.1, r.2.2.1)
  | [], par, lv, s, n, sc => by rw [wks, nks]; rfl
  | p :: ps, par, lv, s, n, sc => by
    rw [wks, nks, List.map_append, List.map_append, wk_nk p (some par) lv s n, wks_nks ps par lv (s + 1) (n + p.sz)]
end
theorem nk_at {t u : Tm} {i lv : Nat} {sc : Sc} (h : (wk t 1 0 [])[i]? = some (u, lv, sc)) : ∃ pq s, (rows0 t)[i]? = some (u, pq, lv, s) := by
  have e := congrArg (fun l => l[i]?) (wk_nk t none 1 0 0 [])
  simp only [List.getElem?_map, h, Option.map_some] at e
  cases q : (rows0 t)[i]? with
  | none =>
    rw [show nk t none 1 0 0 = rows0 t from rfl, q] at e
    cases e
  | some r =>
    rw [show nk t none 1 0 0 = rows0 t from rfl, q] at e
    obtain ⟨a, b, c, d⟩ := r
    simp at e
    obtain ⟨rfl, rfl⟩ := e
    exact ⟨b, d, rfl⟩
/-- levels without those of one node and below it -/
def lvs (t : Tm) : List Nat := (wk t 1 0 []).map (·.2.1)
theorem ddp_lvs (t : Tm) (j : Nat) : ddp (rows0 t) j = ((lvs t)[j]?).getD 0 := by
  unfold ddp lvs
  have e := congrArg (fun l => (l[j]?).map Prod.snd) (wk_nk t none 1 0 0 [])
  simp only [List.getElem?_map, Option.map_map] at e
  rw [List.getElem?_map]
  have e2 : (Prod.snd ∘ fun r : Row => (r.1, r.2.1)) = fun r => r.2.1 := rfl
  have e3 : (Prod.snd ∘ fun r : NR => (r.1, r.2.2.1)) = fun r => r.2.2.1 := rfl
  rw [e2, e3] at e
  rw [e]
  rfl
def mxl (l : List Nat) : Nat := l.foldl max 0
/-- folding over the indexes outside node .. node + size -/
theorem mxl_snoc (l : List Nat) (x : Nat) : mxl (l ++ [x]) = max (mxl l) x := by unfold mxl; rw [List.foldl_append]; rfl
theorem rdp_out (t : Tm) (node size d0 : Nat) : ∀ i, i ≤ t.sz → rdp (rows0 t) node size d0 i = max d0 (mxl (((lvs t).take i).take node ++ ((lvs t).take i).drop (node + size)))
  | 0, _ => by simp [rdp, mxl]
  | i + 1, hi => by
    have hL : (lvs t).length = t.sz := by simp [lvs, wk_len]
    obtain ⟨x, hx⟩ : ∃ x, (lvs t)[i]? = some x := ⟨(lvs t)[i], List.getElem?_eq_getElem (by omega)⟩
    have hlen : ((lvs t).take i).length = i := by rw [List.length_take]; omega
    rw [rdp_succ, rdp_out t node size d0 i (by omega), take_snoc hx]
    unfold rdF
    rw [ddp_lvs, hx]
    generalize (lvs t).take i = A at hlen
    show (if node ≤ i ∧ i < node + size then _ else max _ x) = _
    by_cases h1 : node ≤ i
    · rw [List.take_append_of_le_length (by omega)]
      by_cases h2 : i < node + size
      · rw [if_pos ⟨h1, h2⟩, List.drop_of_length_le (l := A) (by omega), List.drop_of_length_le (l := A ++ [x]) (by simp; omega)]
      · rw [if_neg (fun z => h2 z.2), List.drop_append_of_le_length (by omega), ← List.append_assoc, mxl_snoc]
        omega
    · rw [if_neg (fun z => h1 z.1), List.take_of_length_le (l := A) (by omega), List.take_of_length_le (l := A ++ [x]) (by simp; omega), List.drop_of_length_le (l := A) (by omega), List.drop_of_length_le (l := A ++ [x]) (by simp; omega), List.append_nil, List.append_nil, mxl_snoc]
      omega
/-- the rows but those of a node and below -/
def outs (t : Tm) (i k : Nat) : List Row := (wk t 1 0 []).take i ++ (wk t 1 0 []).drop (i + k)
theorem mx_mxl (rows : List Row) : mx rows = mxl (rows.map (·.2.1)) := by
  unfold mx mxl
  rw [List.foldl_map]
theorem rdp_mx (t : Tm) (node size d0 : Nat) : rdp (rows0 t) node size d0 t.sz = max d0 (mx (outs t node size)) := by
  have hL : (lvs t).length = t.sz := by simp [lvs, wk_len]
  rw [rdp_out t node size d0 t.sz (Nat.le_refl _), mx_mxl, List.take_of_length_le (l := lvs t) (by omega)]
  unfold outs lvs
  rw [List.map_append, List.map_take, List.map_drop]
def g_reduced_at (ga : Str → Addr) (d : Nat) : GT := fun ts K Z => ∃ (t : Tm) (j : Int), ts = [t.T, .int j] ∧ t.ok ∧ t.sz ≤ 100000 ∧ t.dep ≤ d ∧
  (¬ (0 ≤ j ∧ isR t j.toNat = true) → Z (ga "NotThere") ["number"] [.int j]) ∧
  ∀ (i : Nat) (u : Tm) (lv : Nat) (sc : Sc), j = i → (wk t 1 0 [])[i]? = some (u, lv, sc) → Rdx u → (root u).sz ≤ 1000000 ∧
    (40 < max (mx (outs t i u.sz)) (lv - 1 + (root u).dep) → Z (ga "TooDeep") ["limit"] [.int 40]) ∧
    (max (mx (outs t i u.sz)) (lv - 1 + (root u).dep) ≤ 40 → 300 < t.sz - u.sz + (root u).sz → Z (ga "TooBig") ["limit"] [.int 300]) ∧
    (max (mx (outs t i u.sz)) (lv - 1 + (root u).dep) ≤ 40 → t.sz - u.sz + (root u).sz ≤ 300 → K (.sh (rep t i (root u)).T))
mutual
theorem wk_depU : ∀ (t : Tm) (lv n : Nat) (sc : Sc), ∀ r ∈ wk t lv n sc, r.1.dep ≤ t.dep
  | .nd h ps, lv, n, sc, r, hr => by
    rw [wk] at hr
    rcases List.mem_cons.mp hr with rfl | hr
    · exact Nat.le_refl _
    · have := wks_depU ps _ _ _ r hr
      rw [dep_nd]
      omega
theorem wks_depU : ∀ (ps : List Tm) (lv n : Nat) (sc : Sc), ∀ r ∈ wks ps lv n sc, r.1.dep ≤ Tms.dep ps
  | [], _, _, _, r, hr => by rw [wks] at hr; cases hr
  | p :: ps, lv, n, sc, r, hr => by
    rw [wks] at hr
    rw [deps_cons]
    rcases List.mem_append.mp hr with hr | hr
    · have := wk_depU p _ _ _ r hr
      omega
    · have := wks_depU ps _ _ _ r hr
      omega
end
theorem pl_reduced_at (ga : Str → Addr) (d : Nat) (ts : List T) (K0 : O → Prop) (Z0 : ZX) (h : g_reduced_at ga d ts K0 Z0) :
    x_reduced_at g_walk.pf g_is_redex.pf (g_reduced_measure d).pf g_measure.pf (g_refuse_great ga).pf (g_with_term ga).pf (g_reduced_root d).pf ga (endP K0 Z0) (TL.slots 9 ts) := by
  obtain ⟨t, j, rfl, ok, hs, hd, hno, hyes⟩ := h
  unfold x_reduced_at
  simp -implicitDefEqProofs
  refine ⟨t, rfl, ok, by omega, ?_⟩
  simp -implicitDefEqProofs
  by_cases h0 : j < 0
  · simp -implicitDefEqProofs [h0]
    exact hno fun z => by omega
  · obtain ⟨i, rfl⟩ : ∃ i : Nat, j = i := ⟨j.toNat, by omega⟩
    simp -implicitDefEqProofs [h0, wk_len]
    by_cases h1 : t.sz ≤ i
    · simp -implicitDefEqProofs [h1]
      refine hno fun z => ?_
      have := z.2
      unfold isR at this
      rw [List.getElem?_eq_none (by simp [wk_len]; omega)] at this
      cases this
    · simp -implicitDefEqProofs [h1]
      obtain ⟨⟨u, lv, sc⟩, hr⟩ : ∃ r, (wk t 1 0 [])[i]? = some r := ⟨_, List.getElem?_eq_getElem (by rw [wk_len]; omega)⟩
      have hm := List.mem_of_getElem? hr
      have hro := (wk_ok t 1 0 [] ok sc_ok_nil _ hm).1
      have hrs := wk_sz t 1 0 [] _ hm
      have hrd := wk_depU t 1 0 [] _ hm
      have hrl := wk_lv t 1 0 [] _ hm
      obtain ⟨pq, sl, hnr⟩ := nk_at hr
      have hju := (nk_up t none 1 0 0 i u pq lv sl hnr).1
      simp -implicitDefEqProofs [hr]
      refine ⟨u, rfl, hro, by simp at hrs; omega, ?_⟩
      have hR : isR t i = rdx u := by unfold isR; rw [hr]; rfl
      simp -implicitDefEqProofs
      cases hx : rdx u with
      | false =>
        simp -implicitDefEqProofs
        exact hno fun z => by rw [show (i : Int).toNat = i by omega, hR, hx] at z; exact absurd z.2 (by simp)
      | true =>
        simp -implicitDefEqProofs [hr]
        have hu := rdx_iff hro hx
        obtain ⟨hsz, y1, y2, y3⟩ := hyes i u lv sc rfl hr hu
        refine ⟨u, rfl, hro, hu, by simp at hrd; omega, by simp at hrs; omega, ?_⟩
        rw [rm_is hro hu]
        simp -implicitDefEqProofs
        refine ⟨u, rfl, hro, by simp at hrs; omega, ?_⟩
        simp -implicitDefEqProofs [wk_len]
        have c1 : cutL ((wk t 1 0 []).map fun a => a.T) none (some (i : Int)) = ((wk t 1 0 []).take i).map Row.T := by rw [cutL_to, List.map_take]
        have c2 : cutL ((wk t 1 0 []).map fun a => a.T) (some ((i : Int) + (u.sz : Int))) none = ((wk t 1 0 []).drop (i + u.sz)).map Row.T := by
          rw [show (i : Int) + (u.sz : Int) = ((i + u.sz : Nat) : Int) by omega, cutL_from, List.map_drop]
        have hol : (outs t i u.sz).length = t.sz - u.sz := by
          unfold outs
          rw [List.length_append, List.length_take, List.length_drop, wk_len]
          omega
        rw [c1, c2]
        refine ⟨?_, outs t i u.sz, by simp [outs], ?_⟩
        · simp -implicitDefEqProofs [wk_len]
          omega
        have hlv : 1 ≤ lv := hrl
        simp -implicitDefEqProofs [hr]
        rw [hol]
        refine ⟨max (mx (outs t i u.sz)) (lv - 1 + (root u).dep), t.sz - u.sz + (root u).sz, ?_, y1, y2, fun a1 a2 => ?_⟩
        · have e1 : (if (mx (outs t i u.sz) : Int) < (lv : Int) - 1 + ((root u).dep : Int) then (lv : Int) - 1 + ((root u).dep : Int) else (mx (outs t i u.sz) : Int)) = ((max (mx (outs t i u.sz)) (lv - 1 + (root u).dep) : Nat) : Int) := by
            split <;> omega
          simp -implicitDefEqProofs [e1]
        · simp -implicitDefEqProofs
          refine ⟨u, rfl, hro, hu, by simp at hrd; omega, ?_⟩
          simp -implicitDefEqProofs
          refine ⟨t, i, u, root u, pq, lv, sl, rfl, ok, by omega, root_ok hro hu, hsz, hnr, hro, hlv, ?_, a2, y3 a1 a2⟩
          rw [rdp_mx, nmx_dep]
          omega
end Rd
end TL

set_option maxHeartbeats 2000000
namespace TL
open PySem PySem.Spec PyProof.Rows L2
namespace Rd
theorem range_at {lo : Int} {n i : Nat} {t : T} (h : (rangeL lo n)[i]? = some t) : t = .int (lo + i) ∧ i < n := by
  unfold rangeL at h
  rw [List.getElem?_map] at h
  cases q : (List.range n)[i]? with
  | none => rw [q] at h; cases h
  | some j =>
    rw [q] at h
    cases h
    obtain ⟨h1, h2⟩ := List.getElem?_eq_some_iff.mp q
    rw [List.getElem_range] at h2
    subst h2
    exact ⟨rfl, by simpa using h1⟩
@[simp] theorem range_len (lo : Int) (n : Nat) : (rangeL lo n).length = n := by simp [rangeL]
theorem sOk_lit (s : String) : sOk (Str.ofString s) := strOk_lit s
theorem abc_at (k : Nat) (hk : k < 26) : ∃ c, ("abcdefghijklmnopqrstuvwxyz" : Str).cps.toList[k]? = some c ∧ c < 0x110000 := by
  have h : ∀ k : Fin 26, ∃ c, ("abcdefghijklmnopqrstuvwxyz" : Str).cps.toList[k.val]? = some c ∧ c < 0x110000 := by
    have : ("abcdefghijklmnopqrstuvwxyz" : Str).cps.toList = [97, 98, 99, 100, 101, 102, 103, 104, 105, 106, 107, 108, 109, 110, 111, 112, 113, 114, 115, 116, 117, 118, 119, 120, 121, 122] := by decide +kernel
    rw [this]
    intro k
    refine ⟨97 + k.val, ?_, by omega⟩
    match k with
    | ⟨k, hk⟩ => exact (show ∀ k < 26, ([97, 98, 99, 100, 101, 102, 103, 104, 105, 106, 107, 108, 109, 110, 111, 112, 113, 114, 115, 116, 117, 118, 119, 120, 121, 122] : List Nat)[k]? = some (97 + k) by decide) k hk
  exact h ⟨k, hk⟩
def g__law_letters : GI := fun o ts K _ => StoreOk o ∧ ∃ many : Int, ts = [.int many] ∧ many ≤ 1000 ∧ -1000 ≤ many ∧ ∀ s o', StoreOk o' → sOk s → K (.sh (.str s)) o'
theorem pl__law_letters (v0 : V) (o : O) (ts : List T) (K0 : O → O → Prop) (Z0 : ZX) (h : g__law_letters o ts K0 Z0) : x__law_letters g__law_take.pf (endI v0 K0 Z0) (some (.io v0 o) :: slots 3 ts) := by
  obtain ⟨ho, many, rfl, hm, hm2, hk⟩ := h
  unfold x__law_letters
  simp
  refine foI ?_
  simp
  refine ⟨⟨by omega, by omega⟩, ?_⟩
  refine forI (fun i ρ => ∃ (o' : O) (s : Str) (x3 : Option O), ρ = [some (.io v0 o'), some (.sh (.int many)), some (.sh (.str s)), x3] ∧ StoreOk o' ∧ sOk s ∧ s.length = i) ⟨o, "", none, rfl, ho, sOk_lit "", rfl⟩ ?_ ?_
  · rintro i u ρ hu ⟨o', s, x3, rfl, ho', hs, hsl⟩
    obtain ⟨rfl, hi⟩ := range_at hu
    obtain ⟨cells, p, n, l, c, b, t, rfl, hp, hn⟩ := id ho'
    simp
    refine ⟨ho', 26, rfl, by decide, fun k o1 ho1 h0 h1 => ?_⟩
    obtain ⟨m, rfl⟩ : ∃ m : Nat, k = m := ⟨k.toNat, by omega⟩
    obtain ⟨ch, hc, hlt⟩ := abc_at m (by omega)
    have hlen : ("abcdefghijklmnopqrstuvwxyz" : Str).length ≤ 16777216 := by decide +kernel
    have hc' : Option.map (fun c => c) (("abcdefghijklmnopqrstuvwxyz" : Str).cps.toList[m]?) = some ch := by rw [hc]; rfl
    simp only [Array.getElem?_toList] at hc
    simp [hlen, hc]
    have hone : (⟨#[ch]⟩ : Str).length = 1 := rfl
    refine ⟨by rw [hone]; omega, o1, s ++ ⟨#[ch]⟩, ⟨rfl, rfl⟩, ho1, app_ok hs (by unfold sOk PyData.strOk; simp [hlt]), by rw [app_len, hone, hsl]⟩
  · rintro ρ ⟨o', s, x3, rfl, ho', hs, hsl⟩
    obtain ⟨cells, p, n, l, c, b, t, rfl, hp, hn⟩ := id ho'
    simp
    exact hk s _ ho' hs
/-! forms: texts of kinds, few nodes -/
def Fm (n : Nat) (t : T) : Prop := (t.isD = true ∧ t.pl = true) ∧ t.d.depth ≤ n
def g__law_leaf : GI := fun o ts K _ => StoreOk o ∧ ∃ (xs : List T) (many : Int), ts = [.lst xs, .int many] ∧ 0 ≤ many ∧ many < 2 ^ 50 ∧ xs.length ≤ 1000000 ∧ (xs = [] → 0 < many) ∧ (∀ x ∈ xs, ∃ s, x = .str s ∧ sOk s) ∧ ∀ f o', StoreOk o' → Fm 1 f → f.nn ≤ 3 → K (.sh f) o'
theorem pl__law_leaf (v0 : V) (o : O) (ts : List T) (K0 : O → O → Prop) (Z0 : ZX) (h : g__law_leaf o ts K0 Z0) : x__law_leaf g__law_take.pf g__law_pick.pf (endI v0 K0 Z0) (some (.io v0 o) :: slots 2 ts) := by
  obtain ⟨ho, xs, many, rfl, hm0, hm, hxl, hx0, hx, hk⟩ := h
  obtain ⟨cells, p, n, l, c, b, t, rfl, hp, hn⟩ := id ho
  unfold x__law_leaf
  simp
  by_cases m0 : 0 < many
  · simp [m0]
    by_cases e : xs = []
    · simp [e]
      refine ⟨ho, many, rfl, by omega, fun k o2 ho2 _ _ => ?_⟩
      simp
      exact hk _ o2 ho2 ⟨⟨by simp, by simp⟩, by simp⟩ (by simp)
    · simp [e]
      refine ⟨ho, 2, rfl, by decide, fun k o1 ho1 h0 h1 => ?_⟩
      obtain ⟨cells1, p1, n1, l1, c1, b1, t1, rfl, hp1, hn1⟩ := id ho1
      by_cases k0 : k = 0
      · simp [k0]
        refine ⟨ho1, many, rfl, by omega, fun k o2 ho2 _ _ => ?_⟩
        simp
        exact hk _ o2 ho2 ⟨⟨by simp, by simp⟩, by simp⟩ (by simp)
      · simp [k0]
        refine ⟨ho1, _, xs, rfl, .inl rfl, e, hxl, fun x hxm o2 ho2 => ?_⟩
        obtain ⟨s, rfl, hs⟩ := hx x hxm
        simp
        exact hk _ o2 ho2 ⟨⟨by unfold sOk at hs; simp [hs], by unfold sOk at hs; simp [hs]⟩, by simp⟩ (by simp)
  · simp [m0]
    refine ⟨ho, _, xs, rfl, .inl rfl, fun z => m0 (hx0 z), hxl, fun x hxm o2 ho2 => ?_⟩
    obtain ⟨s, rfl, hs⟩ := hx x hxm
    simp
    exact hk _ o2 ho2 ⟨⟨by unfold sOk at hs; simp [hs], by unfold sOk at hs; simp [hs]⟩, by simp⟩ (by simp)
end Rd
end TL

set_option maxHeartbeats 2000000
namespace TL
open PySem PySem.Spec PyProof.Rows L2
namespace Rd
theorem Fm.mono {n m : Nat} {t : T} (h : Fm n t) (hl : n ≤ m) : Fm m t := ⟨h.1, Nat.le_trans h.2 hl⟩
theorem fm_seal {n : Nat} {a : T} (h : Fm n a) : Fm (n + 1) (.tup [.str "seal", a]) := ⟨⟨by simp [h.1.1], by simp [h.1.2]⟩, by have := h.2; simp; omega⟩
theorem fm_two {n : Nat} {w : Str} {a b : T} (hw : sOk w) (h : Fm n a) (h2 : Fm n b) : Fm (n + 1) (.tup [.str w, a, b]) := ⟨⟨by unfold sOk at hw; simp [h.1.1, h2.1.1, hw], by unfold sOk at hw; simp [h.1.2, h2.1.2, hw]⟩, by have := h.2; have := h2.2; simp; omega⟩
def g__law_form : GI := fun o ts K _ => StoreOk o ∧ ∃ (xs : List T) (many steps : Int), ts = [.lst xs, .int many, .int steps] ∧ 0 ≤ many ∧ many < 2 ^ 50 ∧ xs.length ≤ 1000000 ∧ (xs = [] → 0 < many) ∧ (∀ x ∈ xs, ∃ s, x = .str s ∧ sOk s) ∧ 0 ≤ steps ∧ steps ≤ 9 ∧ ∀ f o', StoreOk o' → Fm 20 f → (f.nn : Int) ≤ 3 + 5 * steps → K (.sh f) o'
theorem list_two {α : Type} {l : List α} (h : 2 ≤ l.length) : ∃ r a b, l = r ++ [a, b] := by
  have h1 : l ≠ [] := by intro z; subst z; simp at h
  obtain ⟨r, b, rfl⟩ := List.eq_nil_or_concat l |>.resolve_left h1
  have h2 : r ≠ [] := by intro z; subst z; simp at h
  obtain ⟨q, a, rfl⟩ := List.eq_nil_or_concat r |>.resolve_left h2
  exact ⟨q, a, b, by simp⟩
theorem list_one {α : Type} {l : List α} (h : 1 ≤ l.length) : ∃ r a, l = r ++ [a] := by
  have h1 : l ≠ [] := by intro z; subst z; simp at h
  obtain ⟨r, b, rfl⟩ := List.eq_nil_or_concat l |>.resolve_left h1
  exact ⟨r, b, by simp⟩
theorem pl__law_form (v0 : V) (o : O) (ts : List T) (K0 : O → O → Prop) (Z0 : ZX) (h : g__law_form o ts K0 Z0) : x__law_form g__law_take.pf g__law_leaf.pf g__law_pick.pf (endI v0 K0 Z0) (some (.io v0 o) :: slots 7 ts) := by
  obtain ⟨ho, xs, many, steps, rfl, hm0, hm, hxl, hx0, hx, hs0, hs, hk⟩ := h
  unfold x__law_form
  simp
  refine foI ?_
  simp
  have e1 : (if (1 : Int) < steps then steps else 1) = ((max 1 steps.toNat : Nat) : Int) := by split <;> omega
  rw [e1]
  refine ⟨⟨by omega, by omega⟩, ?_⟩
  refine forI (fun i ρ => ∃ (o' : O) (st : List T) (x5 x6 x7 : Option O), ρ = [some (.io v0 o'), some (.sh (.lst xs)), some (.sh (.int many)), some (.sh (.int steps)), some (.lst (st.map .sh)), x5, x6, x7] ∧ StoreOk o' ∧ st.length ≤ i ∧ (0 < i → 1 ≤ st.length) ∧ T.nns st ≤ 3 * i ∧ ∀ f ∈ st, Fm (i + 1) f) ⟨o, [], none, none, none, rfl, ho, by simp, by simp, by simp, by simp⟩ ?_ ?_
  · rintro i u ρ hu ⟨o', st, x5, x6, x7, rfl, ho', hl, hl1, hnn, hf⟩
    obtain ⟨rfl, hi⟩ := range_at hu
    obtain ⟨cells, p, n, l, c, b, t, rfl, hp, hn⟩ := id ho'
    have leaf : ∀ (o1 : O), StoreOk o1 → ∀ (K : O → O → Prop) (Z : ZX), (∀ f o2, StoreOk o2 → Fm 1 f → f.nn ≤ 3 → K (.sh f) o2) → callIE g__law_leaf o1 [.lst xs, .int many] (c := ⟨K⟩) (z := ⟨Z⟩) := fun o1 ho1 K Z hK =>
      ⟨ho1, xs, many, rfl, hm0, hm, hxl, hx0, hx, hK⟩
    simp
    by_cases e : st = []
    · subst e
      simp
      refine leaf _ ho' _ _ fun f o2 ho2 hf2 hnf => ?_
      obtain ⟨cells2, p2, n2, l2, c2, b2, t2, rfl, hp2, hn2⟩ := id ho2
      simp
      exact ⟨_, [f], ⟨rfl, rfl⟩, ho2, by simp, by simp, by simp; omega, by simpa using hf2.mono (by omega)⟩
    · have hpos : 0 < st.length := List.length_pos_iff.mpr e
      have hstl : st.length ≤ 16 := by omega
      simp [hpos]
      refine ⟨ho', 5, rfl, by decide, fun k o1 ho1 k0 k1 => ?_⟩
      obtain ⟨cells1, p1, n1, l1, c1, b1, t1, rfl, hp1, hn1⟩ := id ho1
      have put : ∀ (f : T) (o2 : O), StoreOk o2 → Fm 1 f → f.nn ≤ 3 → ∃ o' st', (o2 = o' ∧ st.map O.sh ++ [O.sh f] = List.map O.sh st') ∧ StoreOk o' ∧ st'.length ≤ i + 1 ∧ 1 ≤ st'.length ∧ T.nns st' ≤ 3 * (i + 1) ∧ ∀ f ∈ st', Fm (i + 1 + 1) f := fun f o2 ho2 hf2 hn2 =>
        ⟨o2, st ++ [f], ⟨rfl, by simp⟩, ho2, by simp; omega, by simp, by simp; omega, fun g hg => by
          rcases List.mem_append.mp hg with hg | hg
          · exact (hf g hg).mono (by omega)
          · rw [List.mem_singleton.mp hg]
            exact hf2.mono (by omega)⟩
      by_cases a1 : k < 2
      · simp [a1]
        refine leaf _ ho1 _ _ fun f o2 ho2 hf2 hnf => ?_
        obtain ⟨cells2, p2, n2, l2, c2, b2, t2, rfl, hp2, hn2⟩ := id ho2
        simp
        exact ⟨by omega, put f _ ho2 hf2 hnf⟩
      · by_cases a2 : k < 4
        · by_cases a3 : (st.length : Int) < 2
          · simp [a1, a2, a3]
            refine leaf _ ho1 _ _ fun f o2 ho2 hf2 hnf => ?_
            obtain ⟨cells2, p2, n2, l2, c2, b2, t2, rfl, hp2, hn2⟩ := id ho2
            simp
            exact ⟨by omega, put f _ ho2 hf2 hnf⟩
          · have k4 : ¬ k = 4 := by omega
            obtain ⟨r, x, y, rfl⟩ := list_two (l := st) (by omega)
            have hx2 := hf x (by simp)
            have hy2 := hf y (by simp)
            have hr2 : ∀ g ∈ r, Fm (i + 1) g := fun g hg => hf g (by simp [hg])
            simp at hl hpos hstl hnn
            have a3' : ¬ ((r.length : Int) + 2 < 2) := by omega
            have fin : ∀ w : Str, sOk w → ∃ o' st', (sto cells1 p1 n1 l1 c1 b1 t1 = o' ∧ r.map O.sh ++ [O.sh (.tup [.str w, x, y])] = List.map O.sh st') ∧ StoreOk o' ∧ st'.length ≤ i + 1 ∧ 1 ≤ st'.length ∧ T.nns st' ≤ 3 * (i + 1) ∧ ∀ f ∈ st', Fm (i + 1 + 1) f := fun w hw =>
              ⟨_, r ++ [.tup [.str w, x, y]], ⟨rfl, by simp⟩, ho1, by simp; omega, by simp, by simp; omega, fun g hg => by
                rcases List.mem_append.mp hg with hg | hg
                · exact (hr2 g hg).mono (by omega)
                · rw [List.mem_singleton.mp hg]
                  exact fm_two hw hx2 hy2⟩
            simp [a1, a2, k4, a3']
            rcases (show k = 2 ∨ k = 3 by omega) with rfl | rfl
            · simp
              exact ⟨by omega, fin "fn" (sOk_lit _)⟩
            · simp
              exact ⟨by omega, fin "pair" (sOk_lit _)⟩
        · obtain rfl : k = 4 := by omega
          obtain ⟨r, x, rfl⟩ := list_one (l := st) (by omega)
          have hx2 := hf x (by simp)
          have hr2 : ∀ g ∈ r, Fm (i + 1) g := fun g hg => hf g (by simp [hg])
          simp at hl hpos hstl hnn
          simp
          refine ⟨by omega, _, r ++ [.tup [.str "seal", x]], ⟨rfl, by simp⟩, ho1, by simp; omega, by simp, by simp; omega, fun g hg => ?_⟩
          rcases List.mem_append.mp hg with hg | hg
          · exact (hr2 g hg).mono (by omega)
          · rw [List.mem_singleton.mp hg]
            exact fm_seal hx2
  · rintro ρ ⟨o', st, x5, x6, x7, rfl, ho', hl, hl1, hnn, hf⟩
    have hl1' : 1 ≤ st.length := hl1 (by simp; omega)
    simp at hl hnn
    simp
    refine foI ?_
    simp
    refine ⟨⟨by omega, by omega⟩, ?_⟩
    refine forI (fun i ρ => ∃ (o1 : O) (s2 : List T) (y5 y6 y7 : Option O), ρ = [some (.io v0 o1), some (.sh (.lst xs)), some (.sh (.int many)), some (.sh (.int steps)), some (.lst (s2.map .sh)), y5, y6, y7] ∧ StoreOk o1 ∧ s2.length + i = st.length ∧ T.nns s2 ≤ T.nns st + 2 * i ∧ ∀ f ∈ s2, Fm (11 + i) f) ⟨o', st, _, _, _, rfl, ho', rfl, by simp, fun f h => (hf f h).mono (by simp; omega)⟩ ?_ ?_
    · rintro i u ρ hu ⟨o1, s2, y5, y6, y7, rfl, ho1, hl2, hn2, hf2⟩
      obtain ⟨rfl, hi⟩ := range_at hu
      obtain ⟨r, x, y, rfl⟩ := list_two (l := s2) (by omega)
      obtain ⟨cells1, p1, n1, l1, c1, b1, t1, rfl, hp1, hn1⟩ := id ho1
      have hx2 := hf2 x (by simp)
      have hy2 := hf2 y (by simp)
      have hr2 : ∀ g ∈ r, Fm (11 + i) g := fun g hg => hf2 g (by simp [hg])
      simp at hl2 hn2
      simp
      refine ⟨ho1, _, [.str "fn", .str "pair"], rfl, .inl rfl, by simp, by simp, fun w hw o2 ho2 => ?_⟩
      obtain ⟨ws, rfl, hws⟩ : ∃ ws, w = .str ws ∧ sOk ws := by
        simp at hw
        rcases hw with rfl | rfl
        · exact ⟨_, rfl, sOk_lit _⟩
        · exact ⟨_, rfl, sOk_lit _⟩
      obtain ⟨cells2, p2, n2, l2, c2, b2, t2, rfl, hp2, hn2⟩ := id ho2
      simp
      refine ⟨by omega, _, r ++ [.tup [.str ws, x, y]], ⟨rfl, by simp⟩, ho2, by simp; omega, by simp; omega, fun g hg => ?_⟩
      rcases List.mem_append.mp hg with hg | hg
      · exact (hr2 g hg).mono (by omega)
      · rw [List.mem_singleton.mp hg]
        exact fm_two hws hx2 hy2
    · rintro ρ ⟨o1, s2, y5, y6, y7, rfl, ho1, hl2, hn2, hf2⟩
      simp at hl2
      obtain ⟨f, rfl⟩ := List.length_eq_one_iff.mp (show s2.length = 1 by omega)
      obtain ⟨cells1, p1, n1, l1, c1, b1, t1, rfl, hp1, hn1⟩ := id ho1
      simp
      simp at hn2
      exact hk f _ ho1 ((hf2 f (by simp)).mono (by simp; omega)) (by omega)
end Rd
end TL

set_option maxHeartbeats 2000000
namespace TL
open PySem PySem.Spec PyProof.Rows L2
namespace Rd
def strsOk (xs : List T) : Prop := ∀ x ∈ xs, ∃ s, x = .str s ∧ sOk s
def g__law_ground : GI := fun o ts K _ => StoreOk o ∧ ∃ xs : List T, ts = [.lst xs] ∧ xs ≠ [] ∧ xs.length ≤ 1000000 ∧ strsOk xs ∧ ∀ f o', StoreOk o' → Fm 20 f → f.nn ≤ 25 → K (.sh f) o'
theorem pl__law_ground (v0 : V) (o : O) (ts : List T) (K0 : O → O → Prop) (Z0 : ZX) (h : g__law_ground o ts K0 Z0) : x__law_ground g__law_form.pf g__law_take.pf (endI v0 K0 Z0) (some (.io v0 o) :: TL.slots 1 ts) := by
  obtain ⟨ho, xs, rfl, hne, hxl, hx, hk⟩ := h
  obtain ⟨cells, p, n, l, c, b, t, rfl, hp, hn⟩ := id ho
  unfold x__law_ground
  simp
  refine ⟨ho, 6, rfl, by decide, fun k o1 ho1 h0 h1 => ?_⟩
  obtain ⟨cells1, p1, n1, l1, c1, b1, t1, rfl, hp1, hn1⟩ := id ho1
  obtain ⟨m, rfl⟩ : ∃ m : Nat, k = m := ⟨k.toNat, by omega⟩
  rcases (show m = 0 ∨ m = 1 ∨ m = 2 ∨ m = 3 ∨ m = 4 ∨ m = 5 by omega) with rfl | rfl | rfl | rfl | rfl | rfl <;>
    (simp
     refine ⟨ho1, xs, 0, _, rfl, by decide, by decide, hxl, fun z => absurd z hne, hx, by decide, by decide, fun f o' ho' hf hn => ?_⟩
     simp
     exact hk f o' ho' hf (by omega))
/-! heads -/
def g__law_arity : GT := fun ts K _ => ∃ h : Hd, ts = [.str (Str.ofString h.w)] ∧ K (.sh (.int (h.ar : Nat)))
theorem pl__law_arity (ts : List T) (K0 : O → Prop) (Z0 : ZX) (h : g__law_arity ts K0 Z0) : x__law_arity (endP K0 Z0) (TL.slots 1 ts) := by
  obtain ⟨h, rfl, hk⟩ := h
  unfold x__law_arity
  cases h <;> (simp [Hd.w]; exact hk)
def g__law_end_head : GI := fun o ts K _ => StoreOk o ∧ ∃ (ns cs us sc : List T) (fr : Bool) (way : Int), ts = [.lst ns, .lst cs, .lst us, .tup sc, .bl fr, .int way] ∧ strsOk ns ∧ strsOk cs ∧ strsOk us ∧ strsOk sc ∧ ns ≠ [] ∧ ns.length ≤ 1000000 ∧ cs.length ≤ 1000000 ∧ us.length ≤ 1000000 ∧ sc.length ≤ 1000000 ∧
  ∀ (h : Hd) o', StoreOk o' → h.ar = 0 → h.good → K (.sh h.t) o'
theorem ne_of_pos {l : List T} (h : 0 < l.length) : l ≠ [] := fun z => by subst z; simp at h
/-- the end of _law_end_head -/
def eh_last (g__law_take : IF) (g__law_pick : IF) : XS := xSeq (xIfS (xAnd (x2T (intT fun i j => decide (j < i)) (xB ((un1 lenT)) (xCons (xName 2) (xNil))) (xC (.int 0))) (x2T eqT (xCallI 0 g__law_take (xCons (xC (.int 2)) (xNil))) (xC (.int 1)))) (xRet (xTup (xCons (xC (.str "const")) (xCons (xCallI 0 g__law_pick (xCons (xName 2) (xNil))) (xNil))))) (xNext)) (xRet (xTup (xCons (xC (.str "hole")) (xNil))))
theorem pl_eh_last (v0 : V) (K0 : O → O → Prop) (Z0 : ZX) (ns cs us sc : List T) (fr : Bool) (way : Int) (hcs : strsOk cs) (hus : strsOk us) (hsc : strsOk sc) (l2 : cs.length ≤ 1000000) (l3 : us.length ≤ 1000000) (l4 : sc.length ≤ 1000000)
    (hk : ∀ (h : Hd) o', StoreOk o' → h.ar = 0 → h.good → K0 (.sh h.t) o') (o : O) (ho : StoreOk o) : eh_last g__law_take.pf g__law_pick.pf (endI v0 K0 Z0) [some (.io v0 o), some (.sh (.lst ns)), some (.sh (.lst cs)), some (.sh (.lst us)), some (.sh (.tup sc)), some (.sh (.bl fr)), some (.sh (.int way))] := by
  obtain ⟨cells, p, n, l, c, b, t, rfl, hp, hn⟩ := id ho
  unfold eh_last
  simp
  by_cases c0 : 0 < cs.length
  · simp [c0]
    refine ⟨ho, 2, rfl, by decide, fun k o1 ho1 h0 h1 => ?_⟩
    simp
    obtain ⟨cells1, p1, n1, l1', c1, b1, t1, rfl, hp1, hn1⟩ := id ho1
    by_cases k1 : k = 1
    · simp [k1]
      refine ⟨ho1, _, cs, rfl, .inl rfl, ne_of_pos c0, l2, fun x hx o2 ho2 => ?_⟩
      obtain ⟨s, rfl, hs⟩ := hcs x hx
      simp
      exact hk (.con s) o2 ho2 rfl hs
    · simp [k1]
      exact hk .hol _ ho1 rfl trivial
  · simp [c0]
    exact hk .hol _ ho rfl trivial
def eh_rest (g__law_take : IF) (g__law_pick : IF) : XS := xSeq (xIfS (xAnd (x2T eqT (xName 6) (xC (.int 1))) (x2T (intT fun i j => decide (j < i)) (xB ((un1 lenT)) (xCons (xName 2) (xNil))) (xC (.int 0)))) (xRet (xTup (xCons (xC (.str "const")) (xCons (xCallI 0 g__law_pick (xCons (xName 2) (xNil))) (xNil))))) (xNext)) (xSeq (xIfS (xAnd (x2T eqT (xName 6) (xC (.int 3))) (x2T (intT fun i j => decide (j < i)) (xB ((un1 lenT)) (xCons (xName 3) (xNil))) (xC (.int 0)))) (xRet (xTup (xCons (xC (.str "use")) (xCons (xCallI 0 g__law_pick (xCons (xName 3) (xNil))) (xNil))))) (xNext)) (xSeq (xIfS (xAnd (x2T neT (xName 6) (xC (.int 2))) (x2T (intT fun i j => decide (j < i)) (xB ((un1 lenT)) (xCons (xName 4) (xNil))) (xC (.int 0)))) (xRet (xTup (xCons (xC (.str "name")) (xCons (xCallI 0 g__law_pick (xCons (xName 4) (xNil))) (xNil))))) (xNext)) (eh_last g__law_take g__law_pick)))
theorem pl_eh_rest (v0 : V) (K0 : O → O → Prop) (Z0 : ZX) (ns cs us sc : List T) (fr : Bool) (way : Int) (hcs : strsOk cs) (hus : strsOk us) (hsc : strsOk sc) (l2 : cs.length ≤ 1000000) (l3 : us.length ≤ 1000000) (l4 : sc.length ≤ 1000000)
    (hk : ∀ (h : Hd) o', StoreOk o' → h.ar = 0 → h.good → K0 (.sh h.t) o') (o : O) (ho : StoreOk o) : eh_rest g__law_take.pf g__law_pick.pf (endI v0 K0 Z0) [some (.io v0 o), some (.sh (.lst ns)), some (.sh (.lst cs)), some (.sh (.lst us)), some (.sh (.tup sc)), some (.sh (.bl fr)), some (.sh (.int way))] := by
  have rest := pl_eh_last v0 K0 Z0 ns cs us sc fr way hcs hus hsc l2 l3 l4 hk o ho
  obtain ⟨cells, p, n, l, c, b, t, rfl, hp, hn⟩ := id ho
  unfold eh_rest
  simp
  by_cases w1 : way = 1
  · subst w1
    by_cases c0 : 0 < cs.length
    · simp [c0]
      refine ⟨ho, _, cs, rfl, .inl rfl, ne_of_pos c0, l2, fun x hx o2 ho2 => ?_⟩
      obtain ⟨s, rfl, hs⟩ := hcs x hx
      simp
      exact hk (.con s) o2 ho2 rfl hs
    · simp [c0]
      by_cases s0 : 0 < sc.length
      · simp [s0]
        refine ⟨ho, _, sc, rfl, .inr rfl, ne_of_pos s0, l4, fun x hx o2 ho2 => ?_⟩
        obtain ⟨s, rfl, hs⟩ := hsc x hx
        simp
        exact hk (.nam s) o2 ho2 rfl hs
      · simp [s0]
        exact rest
  · simp [w1]
    by_cases w3 : way = 3
    · subst w3
      by_cases u0 : 0 < us.length
      · simp [u0]
        refine ⟨ho, _, us, rfl, .inl rfl, ne_of_pos u0, l3, fun x hx o2 ho2 => ?_⟩
        obtain ⟨s, rfl, hs⟩ := hus x hx
        simp
        exact hk (.use s) o2 ho2 rfl hs
      · simp [u0]
        by_cases s0 : 0 < sc.length
        · simp [s0]
          refine ⟨ho, _, sc, rfl, .inr rfl, ne_of_pos s0, l4, fun x hx o2 ho2 => ?_⟩
          obtain ⟨s, rfl, hs⟩ := hsc x hx
          simp
          exact hk (.nam s) o2 ho2 rfl hs
        · simp [s0]
          exact rest
    · simp [w3]
      by_cases w2 : way = 2
      · simp [w2]
        subst w2
        exact rest
      · simp [w2]
        by_cases s0 : 0 < sc.length
        · simp [s0]
          refine ⟨ho, _, sc, rfl, .inr rfl, ne_of_pos s0, l4, fun x hx o2 ho2 => ?_⟩
          obtain ⟨s, rfl, hs⟩ := hsc x hx
          simp
          exact hk (.nam s) o2 ho2 rfl hs
        · simp [s0]
          exact rest
theorem pl__law_end_head (v0 : V) (o : O) (ts : List T) (K0 : O → O → Prop) (Z0 : ZX) (h : g__law_end_head o ts K0 Z0) : x__law_end_head g__law_take.pf g__law_pick.pf (endI v0 K0 Z0) (some (.io v0 o) :: TL.slots 6 ts) := by
  obtain ⟨ho, ns, cs, us, sc, fr, way, rfl, hns, hcs, hus, hsc, hne, l1, l2, l3, l4, hk⟩ := h
  have rest := pl_eh_rest v0 K0 Z0 ns cs us sc fr way hcs hus hsc l2 l3 l4 hk
  obtain ⟨cells, p, n, l, c, b, t, rfl, hp, hn⟩ := id ho
  change (xSeq (xIfS (xAnd (xTru (xName 5)) (x2T eqT (xCallI 0 g__law_take.pf (xCons (xC (.int 4)) (xNil))) (xC (.int 1)))) (xRet (xTup (xCons (xC (.str "name")) (xCons (xCallI 0 g__law_pick.pf (xCons (xName 1) (xNil))) (xNil))))) (xNext)) (eh_rest g__law_take.pf g__law_pick.pf)) (endI v0 K0 Z0) _
  simp
  cases fr with
  | false =>
    simp
    exact rest _ ho
  | true =>
    simp
    refine ⟨ho, 4, rfl, by decide, fun k o1 ho1 h0 h1 => ?_⟩
    simp
    obtain ⟨cells1, p1, n1, l1', c1, b1, t1, rfl, hp1, hn1⟩ := id ho1
    by_cases k1 : k = 1
    · simp [k1]
      refine ⟨ho1, _, ns, rfl, .inl rfl, hne, l1, fun x hx o2 ho2 => ?_⟩
      obtain ⟨s, rfl, hs⟩ := hns x hx
      simp
      exact hk (.nam s) o2 ho2 rfl hs
    · simp [k1]
      exact rest _ ho1
end Rd
end TL

set_option maxHeartbeats 2000000
/-! the heads of a term in preorder; a row of heads that still wants n terms -/
namespace TL
open PySem PySem.Spec PyProof.Rows L2
namespace Rd
mutual
def Tm.heads : Tm → List Hd
  | .nd h ps => h :: Tms.heads ps
def Tms.heads : List Tm → List Hd
  | [] => []
  | p :: ps => p.heads ++ Tms.heads ps
end
@[simp] theorem heads_nd (h : Hd) (ps : List Tm) : Tm.heads (.nd h ps) = h :: Tms.heads ps := by simp [Tm.heads]
@[simp] theorem heads_nil : Tms.heads [] = [] := by simp [Tms.heads]
@[simp] theorem heads_cons (p : Tm) (ps : List Tm) : Tms.heads (p :: ps) = p.heads ++ Tms.heads ps := by simp [Tms.heads]
theorem heads_app : ∀ ps qs : List Tm, Tms.heads (ps ++ qs) = Tms.heads ps ++ Tms.heads qs
  | [], qs => by simp
  | p :: ps, qs => by simp [heads_app ps qs]
mutual
theorem heads_len : ∀ t : Tm, t.heads.length = t.sz
  | .nd h ps => by
    have := headss_len ps
    simp [Tm.sz]
    omega
theorem headss_len : ∀ ps : List Tm, (Tms.heads ps).length = Tms.sz ps
  | [] => by simp [Tms.sz]
  | p :: ps => by
    have h1 := heads_len p
    have h2 := headss_len ps
    simp [Tms.sz]
    omega
end
theorem toks_take : ∀ (ps : List Tm) (k : Nat), Tms.ok ps → Tms.ok (ps.take k)
  | [], k, h => by simpa using h
  | p :: ps, 0, _ => trivial
  | p :: ps, k + 1, h => ⟨h.1, toks_take ps k h.2⟩
theorem toks_drop : ∀ (ps : List Tm) (k : Nat), Tms.ok ps → Tms.ok (ps.drop k)
  | [], k, h => by simpa using h
  | p :: ps, 0, h => h
  | p :: ps, k + 1, h => toks_drop ps k h.2
/-- with any n terms behind it, out is one term's heads -/
def Wants (out : List Hd) (n : Nat) : Prop := ∀ fs : List Tm, fs.length = n → Tms.ok fs → ∃ t : Tm, t.ok ∧ t.heads = out ++ Tms.heads fs
theorem Wants.nil : Wants [] 1 := fun fs hl ho => by
  match fs, hl, ho with
  | [t], _, ho => exact ⟨t, ho.1, by simp⟩
theorem Wants.step {out : List Hd} {n : Nat} {h : Hd} (w : Wants out (n + 1)) (hg : h.good) : Wants (out ++ [h]) (n + h.ar) := fun fs hl ho => by
  obtain ⟨t, h1, h2⟩ := w (.nd h (fs.take h.ar) :: fs.drop h.ar) (by simp; omega) ⟨⟨by simp; omega, hg, toks_take _ _ ho⟩, toks_drop _ _ ho⟩
  refine ⟨t, h1, ?_⟩
  have e := heads_app (fs.take h.ar) (fs.drop h.ar)
  rw [List.take_append_drop] at e
  rw [h2, e]
  simp
theorem Wants.fin {out : List Hd} (w : Wants out 0) : ∃ t : Tm, t.ok ∧ t.heads = out := by
  obtain ⟨t, h1, h2⟩ := w [] rfl trivial
  exact ⟨t, h1, by simpa using h2⟩
/-- one head per term at most: a row of m heads that wants n terms, closed within m + n -/
theorem Wants.sz {out : List Hd} (w : Wants out 0) : ∃ t : Tm, t.ok ∧ t.heads = out ∧ t.sz = out.length := by
  obtain ⟨t, h1, h2⟩ := w.fin
  exact ⟨t, h1, h2, by rw [← heads_len, h2]⟩
end Rd
end TL

namespace TL
open PySem PySem.Spec PyProof.Rows L2
namespace Rd
def wordsS : List Str := ["fn", "fn", "call", "call", "pair", "left", "right", "seal", "unseal", "note", "pick"]
/-- the word that _law_some_heads draws -/
theorem word_at (m : Nat) (h : m < 15) : ∃ w ∈ wordsS, atI (wordsS.map T.str) (if 4 < (m : Int) then (m : Int) - 4 else 0) = some (.str w) := by
  have hk : ∃ k, k < 11 ∧ (if 4 < (m : Int) then (m : Int) - 4 else 0) = (k : Nat) := by
    by_cases h4 : 4 < m
    · exact ⟨m - 4, by omega, by rw [if_pos (by omega)]; omega⟩
    · exact ⟨0, by omega, by rw [if_neg (by omega)]; rfl⟩
  obtain ⟨k, k1, k2⟩ := hk
  rw [k2]
  have hl : k < wordsS.length := k1
  refine ⟨wordsS[k], List.getElem_mem hl, ?_⟩
  unfold L2.atI L2.ixN
  rw [if_pos (by omega), if_pos (by simp [wordsS]; omega)]
  simp [hl]
end Rd
end TL

set_option maxHeartbeats 2000000
namespace TL
open PySem PySem.Spec PyProof.Rows L2
namespace Rd
def g__law_some_heads : GI := fun o ts K _ => StoreOk o ∧ ∃ (ns cs us ks : List T) (size deep : Nat) (fr : Bool), ts = [.lst ns, .lst cs, .lst us, .lst ks, .int size, .int deep, .bl fr] ∧ strsOk ns ∧ strsOk cs ∧ strsOk us ∧ strsOk ks ∧ ns ≠ [] ∧ ns.length ≤ 1000 ∧ cs.length ≤ 1000 ∧ us.length ≤ 1000 ∧ ks.length ≤ 1000 ∧ 1 ≤ size ∧ size ≤ 10000 ∧ deep ≤ 1000 ∧
  ∀ (t : Tm) o', StoreOk o' → t.ok → t.sz ≤ size → K (.lst (t.heads.map fun h => .sh h.t)) o'
abbrev words := wordsS
/-- what waits: its scope's names and its depth -/
def Todo (m : Nat) (o : O) : Prop := ∃ (sc : List T) (d : Nat), o = .sh (.tup [.tup sc, .int d]) ∧ strsOk sc ∧ sc.length ≤ m ∧ d ≤ m + 1
def sh_push (g__law_arity : PF) : XS := xSeq (xExp (xApp 9 (xCons (xName 17) (xNil)))) (xFor (xRng1 (xCons (xCall g__law_arity (xCons (xName 16) (xNil))) (xNil))) (gN 18) (xExp (xApp 10 (xCons (xTup (xCons (xName 12) (xCons (x2 addT (xName 13) (xC (.int 1))) (xNil)))) (xNil)))))
def sh_leaf (g__law_end_head : IF) : XS := xSeq (xExp (xApp 9 (xCons (xCallI 0 g__law_end_head (xCons (xName 1) (xCons (xName 2) (xCons (xName 3) (xCons (xName 12) (xCons (xName 7) (xCons (x2 modT (xB ((un1 toIntT)) (xCons (xName 15) (xNil))) (xC (.int 4))) (xNil)))))))) (xNil)))) ((fun D ρ => D.ct ρ))
def sh_in (g__law_arity : PF) (g__law_pick : IF) (g__law_ground : IF) : XS := xSeq (xAsg (xTup (xCons (xName 16) (xNil))) (gN 17)) (xSeq (xIfS (x2T eqT (xName 16) (xC (.str "fn"))) (xSeq (xAsg (xTup (xCons (xC (.str "fn")) (xCons (xCallI 0 g__law_pick (xCons (xName 1) (xNil))) (xNil)))) (gN 17)) (xAsg (x2 addT (xName 12) (xTup (xCons (x2 ixT (xName 17) (xC (.int 1))) (xNil)))) (gN 12))) (xNext)) (xSeq (xIfS (x2T eqT (xName 16) (xC (.str "note"))) (xAsg (xTup (xCons (xC (.str "note")) (xCons (xCallI 0 g__law_ground (xCons (xName 4) (xNil))) (xNil)))) (gN 17)) (xNext)) (xSeq (xIfS (x2T eqT (xName 16) (xC (.str "pick"))) (xAsg (xTup (xCons (xC (.str "pick")) (xCons (xCallI 0 g__law_pick (xCons (xName 4) (xNil))) (xNil)))) (gN 17)) (xNext)) (sh_push g__law_arity))))
def sh_rest (g__law_arity : PF) (g__law_end_head : IF) (g__law_pick : IF) (g__law_ground : IF) : XS := xSeq (xAsg (x2 ixT (xName 8) (xB ((un2 maxT)) (xCons (xC (.int 0)) (xCons (x2 subT (xName 15) (xC (.int 4))) (xNil))))) (gN 16)) (xSeq (xIfS (xOr (x2T (intT fun i j => decide (i < j)) (xName 15) (xC (.int 4))) (xOr (x2T (intT fun i j => decide (j ≤ i)) (xName 13) (xName 6)) (xOr (x2T (intT fun i j => decide (j < i)) (xCall g__law_arity (xCons (xName 16) (xNil))) (xName 14)) (xAnd (x2T inT (xName 16) (xLst (xCons (xC (.str "note")) (xCons (xC (.str "pick")) (xNil))))) (x2T eqT (xB ((un1 lenT)) (xCons (xName 4) (xNil))) (xC (.int 0))))))) (sh_leaf g__law_end_head) (xNext)) (sh_in g__law_arity g__law_pick g__law_ground))
/-- the slots when turn i begins -/
def ShI (v0 : V) (ns cs us ks : List T) (size deep : Nat) (fr : Bool) (i : Nat) (ρ : R) : Prop := ∃ (o' : O) (hs : List Hd) (td : List O) (x8 : O) (x11 x12 x13 x14 x15 x16 x17 x18 : Option O), ρ = [some (.io v0 o'), some (.sh (.lst ns)), some (.sh (.lst cs)), some (.sh (.lst us)), some (.sh (.lst ks)), some (.sh (.int size)), some (.sh (.int deep)), some (.sh (.bl fr)), some x8, some (.lst (hs.map fun h => .sh h.t)), some (.lst td), x11, x12, x13, x14, x15, x16, x17, x18] ∧
    (x8 = .lst (words.map fun w => .sh (.str w)) ∨ x8 = .sh (.lst (words.map .str))) ∧ StoreOk o' ∧ Wants hs td.length ∧ (∀ e ∈ td, Todo i e) ∧ hs.length = i ∧ hs.length + td.length ≤ size
section
variable {v0 : V} {D : ED} {ns cs us ks : List T} {size deep : Nat} {fr : Bool} {o' : O} {hs : List Hd} {td : List O} {x8 : O} {sc : List T} {d i : Nat} {x16 x17 x18 : Option O}
theorem pl_sh_push {x14 x15 : O} (h : Hd) (h8 : x8 = .lst (words.map fun w => .sh (.str w)) ∨ x8 = .sh (.lst (words.map .str))) (ho' : StoreOk o') (hw : Wants hs (td.length + 1)) (htd : ∀ e ∈ td, Todo i e) (hsc : strsOk sc) (hscl : sc.length ≤ i + 1) (hdl : d ≤ i + 1) (hl : hs.length = i) (hsz : hs.length + td.length + 1 + h.ar ≤ size) (hs2 : size ≤ 10000) (hg : h.good)
    (hn : ∀ ρ, ShI v0 ns cs us ks size deep fr (i + 1) ρ → D.nx ρ) :
    sh_push g__law_arity.pf D [some (.io v0 o'), some (.sh (.lst ns)), some (.sh (.lst cs)), some (.sh (.lst us)), some (.sh (.lst ks)), some (.sh (.int size)), some (.sh (.int deep)), some (.sh (.bl fr)), some x8, some (.lst (hs.map fun h => .sh h.t)), some (.lst td), some (.sh (.int i)), some (.sh (.tup sc)), some (.sh (.int d)), some x14, some x15, some (.sh (.str (Str.ofString h.w))), some (.sh h.t), x18] := by
  have har : h.ar ≤ 3 := by cases h <;> simp [Hd.ar]
  unfold sh_push
  simp
  refine ⟨by omega, foI ?_⟩
  simp
  refine ⟨h, rfl, ?_⟩
  simp
  refine ⟨by omega, ?_⟩
  refine forI (fun j ρ => ∃ x18, ρ = [some (.io v0 o'), some (.sh (.lst ns)), some (.sh (.lst cs)), some (.sh (.lst us)), some (.sh (.lst ks)), some (.sh (.int size)), some (.sh (.int deep)), some (.sh (.bl fr)), some x8, some (.lst (hs.map (fun h => .sh h.t) ++ [.sh h.t])), some (.lst (td ++ List.replicate j (.sh (.tup [.tup sc, .int ((d : Int) + 1)])))), some (.sh (.int i)), some (.sh (.tup sc)), some (.sh (.int d)), some x14, some x15, some (.sh (.str (Str.ofString h.w))), some (.sh h.t), x18]) ⟨x18, by simp⟩ ?_ ?_
  · rintro j t ρ hj ⟨x18, rfl⟩
    obtain ⟨rfl, hjlt⟩ := range_at hj
    simp
    refine ⟨by omega, ?_⟩
    rw [List.replicate_succ']
  · rintro ρ ⟨x18, rfl⟩
    refine hn _ ⟨o', hs ++ [h], td ++ List.replicate h.ar (.sh (.tup [.tup sc, .int ((d : Int) + 1)])), x8, some (.sh (.int i)), some (.sh (.tup sc)), some (.sh (.int d)), some x14, some x15, some (.sh (.str (Str.ofString h.w))), some (.sh h.t), x18, ?_, h8, ho', ?_, ?_, by simp [hl], by simp; omega⟩
    · simp
    · have := hw.step hg
      simpa using this
    · intro e he
      rcases List.mem_append.mp he with he | he
      · obtain ⟨sc, d, e1, e2, e3, e4⟩ := htd e he
        exact ⟨sc, d, e1, e2, by omega, by omega⟩
      · rw [List.eq_of_mem_replicate he]
        exact ⟨sc, d + 1, by simp, hsc, by omega, by omega⟩
theorem pl_sh_leaf {x14 : O} {way : Int} (hns : strsOk ns) (hcs : strsOk cs) (hus : strsOk us) (hne : ns ≠ []) (l1 : ns.length ≤ 1000) (l2 : cs.length ≤ 1000) (l3 : us.length ≤ 1000) (h8 : x8 = .lst (words.map fun w => .sh (.str w)) ∨ x8 = .sh (.lst (words.map .str))) (ho' : StoreOk o') (hw : Wants hs (td.length + 1)) (htd : ∀ e ∈ td, Todo i e) (hsc : strsOk sc) (hscl : sc.length ≤ i) (hdl : d ≤ i + 1) (hl : hs.length = i) (hsz : hs.length + td.length + 1 ≤ size) (hs2 : size ≤ 10000)
    (hc : ∀ ρ, ShI v0 ns cs us ks size deep fr (i + 1) ρ → D.ct ρ) :
    sh_leaf g__law_end_head.pf D [some (.io v0 o'), some (.sh (.lst ns)), some (.sh (.lst cs)), some (.sh (.lst us)), some (.sh (.lst ks)), some (.sh (.int size)), some (.sh (.int deep)), some (.sh (.bl fr)), some x8, some (.lst (hs.map fun h => .sh h.t)), some (.lst td), some (.sh (.int i)), some (.sh (.tup sc)), some (.sh (.int d)), some x14, some (.sh (.int way)), x16, x17, x18] := by
  obtain ⟨cells, p, n, l, c, b, t, rfl, hp, hnn⟩ := id ho'
  unfold sh_leaf
  simp
  refine ⟨ho', ns, cs, us, sc, fr, _, rfl, hns, hcs, hus, hsc, hne, by omega, by omega, by omega, by omega, fun h o1 ho1 har hg => ?_⟩
  simp
  refine ⟨by omega, hc _ ⟨o1, hs ++ [h], td, x8, some (.sh (.int i)), some (.sh (.tup sc)), some (.sh (.int d)), some x14, some (.sh (.int way)), x16, x17, x18, ?_, h8, ho1, ?_, ?_, by simp [hl], by simp; omega⟩⟩
  · simp
  · have := hw.step hg
    rw [har] at this
    exact this
  · intro e he
    obtain ⟨sc, d, e1, e2, e3, e4⟩ := htd e he
    exact ⟨sc, d, e1, e2, by omega, by omega⟩
/-- the heads of a word, without its own part -/
def WordOf (w : Str) (h : Hd) : Prop := w = Str.ofString h.w
theorem pl_sh_in {x14 x15 : O} (w : Str) (hww : w ∈ wordsS) (har : ∀ h : Hd, w = Str.ofString h.w → hs.length + td.length + 1 + h.ar ≤ size) (hkn : (w = Str.ofString "note" ∨ w = Str.ofString "pick") → ks ≠ [])
    (hns : strsOk ns) (hks : strsOk ks) (hne : ns ≠ []) (l1 : ns.length ≤ 1000) (l4 : ks.length ≤ 1000) (h8 : x8 = .lst (words.map fun w => .sh (.str w)) ∨ x8 = .sh (.lst (words.map .str))) (ho' : StoreOk o') (hw : Wants hs (td.length + 1)) (htd : ∀ e ∈ td, Todo i e) (hsc : strsOk sc) (hscl : sc.length ≤ i) (hdl : d ≤ i + 1) (hl : hs.length = i) (hs2 : size ≤ 10000)
    (hsz : hs.length + td.length + 1 ≤ size)
    (hn : ∀ ρ, ShI v0 ns cs us ks size deep fr (i + 1) ρ → D.nx ρ) :
    sh_in g__law_arity.pf g__law_pick.pf g__law_ground.pf D [some (.io v0 o'), some (.sh (.lst ns)), some (.sh (.lst cs)), some (.sh (.lst us)), some (.sh (.lst ks)), some (.sh (.int size)), some (.sh (.int deep)), some (.sh (.bl fr)), some x8, some (.lst (hs.map fun h => .sh h.t)), some (.lst td), some (.sh (.int i)), some (.sh (.tup sc)), some (.sh (.int d)), some x14, some x15, some (.sh (.str w)), x17, x18] := by
  obtain ⟨cells, p, n, l, c, b, t, rfl, hp, hnn⟩ := id ho'
  unfold sh_in
  simp [wordsS] at hww
  rcases hww with rfl | rfl | rfl | rfl | rfl | rfl | rfl | rfl | rfl
  · simp
    refine ⟨ho', _, ns, rfl, .inl rfl, hne, by omega, fun x hx o2 ho2 => ?_⟩
    obtain ⟨s, rfl, hs'⟩ := hns x hx
    simp
    refine ⟨by omega, ?_⟩
    have := har (.fn s) rfl
    refine pl_sh_push (.fn s) h8 ho2 hw htd (fun x hx => ?_) (by simp; omega) hdl hl this hs2 hs' hn
    rcases List.mem_append.mp hx with hx | hx
    · exact hsc x hx
    · exact ⟨s, by simpa using hx, hs'⟩
  · simp
    exact pl_sh_push .app h8 ho' hw htd hsc (by omega) hdl hl (har .app rfl) hs2 trivial hn
  · simp
    exact pl_sh_push .pr h8 ho' hw htd hsc (by omega) hdl hl (har .pr rfl) hs2 trivial hn
  · simp
    exact pl_sh_push .lft h8 ho' hw htd hsc (by omega) hdl hl (har .lft rfl) hs2 trivial hn
  · simp
    exact pl_sh_push .rgt h8 ho' hw htd hsc (by omega) hdl hl (har .rgt rfl) hs2 trivial hn
  · simp
    exact pl_sh_push .sel h8 ho' hw htd hsc (by omega) hdl hl (har .sel rfl) hs2 trivial hn
  · simp
    exact pl_sh_push .uns h8 ho' hw htd hsc (by omega) hdl hl (har .uns rfl) hs2 trivial hn
  · simp
    refine ⟨ho', ks, rfl, hkn (.inl rfl), by omega, hks, fun f o2 ho2 hf hfn => ?_⟩
    simp
    exact pl_sh_push (.note f) h8 ho2 hw htd hsc (by omega) hdl hl (har (.note f) rfl) hs2 ⟨hf.1.1, hf.2, hfn, hf.1.2⟩ hn
  · simp
    refine ⟨ho', _, ks, rfl, .inl rfl, hkn (.inr rfl), by omega, fun x hx o2 ho2 => ?_⟩
    obtain ⟨s, rfl, hs'⟩ := hks x hx
    simp
    exact pl_sh_push (.pick s) h8 ho2 hw htd hsc (by omega) hdl hl (har (.pick s) rfl) hs2 hs' hn
theorem words_hd {w : Str} (h : w ∈ wordsS) : ∃ h : Hd, w = Str.ofString h.w ∧ 1 ≤ h.ar := by
  simp [wordsS] at h
  rcases h with rfl | rfl | rfl | rfl | rfl | rfl | rfl | rfl | rfl
  · exact ⟨.fn "", rfl, by decide⟩
  · exact ⟨.app, rfl, by decide⟩
  · exact ⟨.pr, rfl, by decide⟩
  · exact ⟨.lft, rfl, by decide⟩
  · exact ⟨.rgt, rfl, by decide⟩
  · exact ⟨.sel, rfl, by decide⟩
  · exact ⟨.uns, rfl, by decide⟩
  · exact ⟨.note .non, rfl, by simp [Hd.ar]⟩
  · exact ⟨.pick "", rfl, by decide⟩
theorem w_ar {h k : Hd} (e : h.w = k.w) : h.ar = k.ar := by cases h <;> cases k <;> first | rfl | (simp [Hd.w] at e)
end
/-- one turn from the word on -/
theorem pl_sh_rest (v0 : V) (D : ED) (ns cs us ks : List T) (size deep : Nat) (fr : Bool) (hns : strsOk ns) (hcs : strsOk cs) (hus : strsOk us) (hks : strsOk ks) (hne : ns ≠ []) (l1 : ns.length ≤ 1000) (l2 : cs.length ≤ 1000) (l3 : us.length ≤ 1000) (l4 : ks.length ≤ 1000) (hs2 : size ≤ 10000)
    (o' : O) (hs : List Hd) (td : List O) (x8 : O) (sc : List T) (d i : Nat) (way : Int) (x16 x17 x18 : Option O) (h8 : x8 = .lst (words.map fun w => .sh (.str w)) ∨ x8 = .sh (.lst (words.map .str))) (ho' : StoreOk o') (hw : Wants hs (td.length + 1)) (htd : ∀ e ∈ td, Todo i e) (hsc : strsOk sc) (hscl : sc.length ≤ i) (hdl : d ≤ i + 1) (hl : hs.length = i) (hsz : hs.length + td.length + 1 ≤ size) (w0 : 0 ≤ way) (w1 : way < 15)
    (hn : ∀ ρ, ShI v0 ns cs us ks size deep fr (i + 1) ρ → D.nx ρ) (hc : ∀ ρ, ShI v0 ns cs us ks size deep fr (i + 1) ρ → D.ct ρ) :
    sh_rest g__law_arity.pf g__law_end_head.pf g__law_pick.pf g__law_ground.pf D [some (.io v0 o'), some (.sh (.lst ns)), some (.sh (.lst cs)), some (.sh (.lst us)), some (.sh (.lst ks)), some (.sh (.int size)), some (.sh (.int deep)), some (.sh (.bl fr)), some x8, some (.lst (hs.map fun h => .sh h.t)), some (.lst td), some (.sh (.int i)), some (.sh (.tup sc)), some (.sh (.int d)), some (.sh (.int ((size : Int) - i - 1 - td.length))), some (.sh (.int way)), x16, x17, x18] := by
  obtain ⟨m, rfl⟩ : ∃ m : Nat, way = m := ⟨way.toNat, by omega⟩
  have mlt : m < 15 := by omega
  obtain ⟨w, hww, hwe⟩ := word_at m mlt
  obtain ⟨h, rfl, hpos⟩ := words_hd hww
  have leaf := fun (x16 : Option O) => pl_sh_leaf (v0 := v0) (D := D) (ns := ns) (cs := cs) (us := us) (ks := ks) (size := size) (deep := deep) (fr := fr) (o' := o') (hs := hs) (td := td) (x8 := .sh (.lst (words.map .str))) (sc := sc) (d := d) (i := i) (x16 := x16) (x17 := x17) (x18 := x18) (x14 := (.sh (.int ((size : Int) - i - 1 - td.length)))) (way := m) hns hcs hus hne l1 l2 l3 (.inr rfl) ho' hw htd hsc hscl hdl hl hsz hs2 hc
  have inn := fun z1 z2 => pl_sh_in (v0 := v0) (D := D) (ns := ns) (cs := cs) (us := us) (ks := ks) (size := size) (deep := deep) (fr := fr) (o' := o') (hs := hs) (td := td) (x8 := .sh (.lst (words.map .str))) (sc := sc) (d := d) (i := i) (x17 := x17) (x18 := x18) (x14 := (.sh (.int ((size : Int) - i - 1 - td.length)))) (x15 := .sh (.int (m : Nat))) (Str.ofString h.w) hww z1 z2 hns hks hne l1 l4 (.inr rfl) ho' hw htd hsc hscl hdl hl hs2 hsz hn
  have go : sh_rest g__law_arity.pf g__law_end_head.pf g__law_pick.pf g__law_ground.pf D [some (.io v0 o'), some (.sh (.lst ns)), some (.sh (.lst cs)), some (.sh (.lst us)), some (.sh (.lst ks)), some (.sh (.int size)), some (.sh (.int deep)), some (.sh (.bl fr)), some (.sh (.lst (words.map .str))), some (.lst (hs.map fun h => .sh h.t)), some (.lst td), some (.sh (.int i)), some (.sh (.tup sc)), some (.sh (.int d)), some (.sh (.int ((size : Int) - i - 1 - td.length))), some (.sh (.int (m : Nat))), x16, x17, x18] := by
    unfold sh_rest
    simp
    rw [hwe]
    simp
    by_cases c1 : (m : Int) < 4
    · simp [c1]
      exact leaf _
    · simp [c1]
      by_cases c2 : deep ≤ d
      · simp [c2]
        exact leaf _
      · simp [c2]
        refine ⟨h, rfl, ?_⟩
        simp
        by_cases c3 : (size : Int) - i - 1 - td.length < h.ar
        · simp [c3]
          exact leaf _
        · simp [c3]
          have har : ∀ k : Hd, Str.ofString h.w = Str.ofString k.w → hs.length + td.length + 1 + k.ar ≤ size := fun k e => by
            rw [← w_ar (ofString_inj e)]
            omega
          by_cases c4 : (decide ("note" = h.w) || decide ("pick" = h.w)) = true
          · simp only [c4]
            simp
            by_cases c5 : ks = []
            · simp [c5]
              exact c5 ▸ leaf _
            · simp [c5]
              exact inn har fun _ => c5
          · simp only [c4]
            simp
            refine inn har fun z => absurd ?_ c4
            rcases z with z | z <;> simp [ofString_inj z]
  rcases h8 with rfl | rfl
  · exact go
  · exact go
def sh_all (g__law_take : IF) (g__law_arity : PF) (g__law_end_head : IF) (g__law_pick : IF) (g__law_ground : IF) : XS := xSeq (xAsg (xLst (xCons (xC (.str "fn")) (xCons (xC (.str "fn")) (xCons (xC (.str "call")) (xCons (xC (.str "call")) (xCons (xC (.str "pair")) (xCons (xC (.str "left")) (xCons (xC (.str "right")) (xCons (xC (.str "seal")) (xCons (xC (.str "unseal")) (xCons (xC (.str "note")) (xCons (xC (.str "pick")) (xNil))))))))))))) (gN 8)) (xSeq (xAsg (xLst (xNil)) (gN 9)) (xSeq (xAsg (xLst (xCons (xTup (xCons (xTup (xNil)) (xCons (xC (.int 1)) (xNil)))) (xNil))) (gN 10)) (xSeq (xFor (xRng1 (xCons (xName 5) (xNil))) (gN 11) (xSeq (xIfS (xBorT (x2T eqT (xB ((un1 lenT)) (xCons (xName 10) (xNil))) (xC (.int 0)))) ((fun D ρ => D.bk ρ)) (xNext)) (xSeq (xAsg (xPop 10) (gT 2 (gsCons (gN 12) (gsCons (gN 13) (gsNil))))) (xSeq (xAsg (x2 subT (x2 subT (x2 subT (xName 5) (xName 11)) (xC (.int 1))) (xBor (xB ((un1 lenT)) (xCons (xName 10) (xNil))))) (gN 14)) (xSeq (xAsg (xCallI 0 g__law_take (xCons (xC (.int 15)) (xNil))) (gN 15)) (xSeq (xIfS (xAnd (x2T (intT fun i j => decide (i < j)) (xName 15) (xC (.int 4))) (xAnd (xBorT (x2T eqT (xB ((un1 lenT)) (xCons (xName 10) (xNil))) (xC (.int 0)))) (x2T (intT fun i j => decide (j < i)) (xCallI 0 g__law_take (xCons (xC (.int 3)) (xNil))) (xC (.int 0))))) (xAsg (x2 addT (xC (.int 4)) (xCallI 0 g__law_take (xCons (xC (.int 11)) (xNil)))) (gN 15)) (xNext)) (sh_rest g__law_arity g__law_end_head g__law_pick g__law_ground))))))) (xRet (xMov 9)))))
theorem pl__law_some_heads (v0 : V) (o : O) (ts : List T) (K0 : O → O → Prop) (Z0 : ZX) (h : g__law_some_heads o ts K0 Z0) : x__law_some_heads g__law_take.pf g__law_arity.pf g__law_end_head.pf g__law_pick.pf g__law_ground.pf (endI v0 K0 Z0) (some (.io v0 o) :: TL.slots 18 ts) := by
  obtain ⟨ho, ns, cs, us, ks, size, deep, fr, rfl, hns, hcs, hus, hks, hne, l1, l2, l3, l4, hs1, hs2, hd, hk⟩ := h
  obtain ⟨cells, p, n, l, c, b, t, rfl, hp, hn⟩ := id ho
  change sh_all _ _ _ _ _ _ _
  unfold sh_all
  simp
  refine foI ?_
  simp
  refine ⟨by omega, ?_⟩
  refine forI (ShI v0 ns cs us ks size deep fr) ⟨_, [], [.sh (.tup [.tup [], .int 1])], _, none, none, none, none, none, none, none, none, rfl, .inl rfl, ho, Wants.nil, ?_, rfl, by simpa using hs1⟩ ?_ ?_
  · intro e he
    simp at he
    subst he
    exact ⟨[], 1, rfl, (fun x hx => by cases hx), by simp, by simp⟩
  · rintro i t ρ hi ⟨o', hs, td, x8, x11, x12, x13, x14, x15, x16, x17, x18, rfl, h8, ho', hw, htd, hl, hsz⟩
    obtain ⟨rfl, hilt⟩ := range_at hi
    simp
    by_cases t0 : td = []
    · subst t0
      simp
      obtain ⟨t, h1, h2, h3⟩ := hw.sz
      subst h2
      exact hk t o' ho' h1 (by omega)
    · obtain ⟨td', e, rfl⟩ : ∃ td' e, td = td' ++ [e] := ⟨td.dropLast, td.getLast t0, (List.dropLast_concat_getLast t0).symm⟩
      obtain ⟨sc, d, rfl, hsc, hscl, hdl⟩ := htd e (by simp)
      simp
      have sz' : hs.length + td'.length + 1 ≤ size := by simp at hsz; omega
      have hw' : Wants hs (td'.length + 1) := by simpa using hw
      have htd' : ∀ e ∈ td', Todo i e := fun e he => htd e (by simp [he])
      refine ⟨ho', 15, rfl, by decide, fun k o1 ho1 k0 k1 => ?_⟩
      have rest : ∀ (D : ED) (o1 : O) (way rm : Int) (x16 x17 x18 : Option O), rm = (size : Int) - i - 1 - td'.length → D.nx = ShI v0 ns cs us ks size deep fr (i + 1) → D.ct = ShI v0 ns cs us ks size deep fr (i + 1) → StoreOk o1 → 0 ≤ way → way < 15 →
          sh_rest g__law_arity.pf g__law_end_head.pf g__law_pick.pf g__law_ground.pf D [some (.io v0 o1), some (.sh (.lst ns)), some (.sh (.lst cs)), some (.sh (.lst us)), some (.sh (.lst ks)), some (.sh (.int size)), some (.sh (.int deep)), some (.sh (.bl fr)), some x8, some (.lst (hs.map fun h => .sh h.t)), some (.lst td'), some (.sh (.int i)), some (.sh (.tup sc)), some (.sh (.int d)), some (.sh (.int rm)), some (.sh (.int way)), x16, x17, x18] := fun D o1 way rm x16 x17 x18 er d1 d2 ho1 w0 w1 =>
        er ▸ pl_sh_rest v0 D ns cs us ks size deep fr hns hcs hus hks hne l1 l2 l3 l4 hs2 o1 hs td' x8 sc d i way x16 x17 x18 h8 ho1 hw' htd' hsc hscl hdl hl sz' w0 w1 (fun ρ z => d1 ▸ z) (fun ρ z => d2 ▸ z)
      have e9 : (sto cells p n l c b t) = (sto cells p n l c b t) := rfl
      simp
      by_cases c1 : k < 4
      · simp [c1]
        by_cases c2 : td' = []
        · subst c2
          simp
          obtain ⟨cells1, p1, n1, l1', c1', b1, t1, rfl, hp1, hn1⟩ := id ho1
          refine ⟨ho1, 3, rfl, by decide, fun k2 o2 ho2 k20 k21 => ?_⟩
          obtain ⟨cells2, p2, n2, l2', c2', b2, t2, rfl, hp2, hn2⟩ := id ho2
          simp
          by_cases c3 : 0 < k2
          · simp [c3]
            refine ⟨ho2, 11, rfl, by decide, fun k3 o3 ho3 k30 k31 => ?_⟩
            simp
            exact rest _ _ _ _ _ _ _ (by simp) rfl rfl ho3 (by omega) (by omega)
          · simp [c3]
            exact rest _ _ _ _ _ _ _ (by simp) rfl rfl ho2 (by omega) (by omega)
        · have c2' : O.ts td' ≠ [] := by rw [O.ts_map]; simpa using c2
          simp [c2']
          exact rest _ _ _ _ _ _ _ (by simp [O.ts_map]) rfl rfl ho1 (by omega) (by omega)
      · simp [c1]
        exact rest _ _ _ _ _ _ _ (by simp [O.ts_map]) rfl rfl ho1 (by omega) (by omega)
  · rintro ρ ⟨o', hs, td, x8, x11, x12, x13, x14, x15, x16, x17, x18, rfl, h8, ho', hw, htd, hl, hsz⟩
    simp at hl
    obtain rfl : td = [] := List.length_eq_zero_iff.mp (by omega)
    obtain ⟨t, h1, h2, h3⟩ := hw.sz
    simp
    subst h2
    exact hk t o' ho' h1 (by omega)
end Rd
end TL

set_option maxHeartbeats 2000000
/-! nodes by number: heads, levels, kids, ends -/
namespace TL
open PySem PySem.Spec PyProof.Rows L2
namespace Rd
/-- numbers of terms in a row, the first at n -/
def kn : Nat → List Tm → List Nat
  | _, [] => []
  | n, p :: ps => n :: kn (n + p.sz) ps
@[simp] theorem kn_len : ∀ (n : Nat) (ps : List Tm), (kn n ps).length = ps.length
  | _, [] => rfl
  | n, p :: ps => by simp [kn, kn_len]
theorem kn_get : ∀ (n : Nat) (ps : List Tm) (j : Nat), j < ps.length → (kn n ps)[j]? = some (n + Tms.sz (ps.take j))
  | _, [], j, h => by simp at h
  | n, p :: ps, 0, h => by simp [kn]
  | n, p :: ps, j + 1, h => by
    have := kn_get (n + p.sz) ps j (by simpa using h)
    simp [kn, this]
    omega
mutual
theorem nk_dn : ∀ (t : Tm) (par : Option Nat) (dp sp n i : Nat) (h : Hd) (ps : List Tm) (pq : Option Nat) (d s j : Nat) (p : Tm), (nk t par dp sp n)[i]? = some (.nd h ps, pq, d, s) → ps[j]? = some p →
    (nk t par dp sp n)[i + 1 + Tms.sz (ps.take j)]? = some (p, some (n + i), d + 1, h.pre.length + j)
  | .nd h0 ps0, par, dp, sp, n, 0, h, ps, pq, d, s, j, p, e, ej => by
    rw [nk] at e ⊢
    simp at e
    obtain ⟨⟨rfl, rfl⟩, rfl, rfl, rfl⟩ := e
    rw [show 0 + 1 + Tms.sz (ps0.take j) = Tms.sz (ps0.take j) + 1 by omega]
    simp only [List.getElem?_cons_succ, Nat.add_zero]
    exact nks_kid ps0 n (dp + 1) h0.pre.length (n + 1) j p ej
  | .nd h0 ps0, par, dp, sp, n, i + 1, h, ps, pq, d, s, j, p, e, ej => by
    rw [nk] at e ⊢
    simp only [List.getElem?_cons_succ] at e
    rw [show i + 1 + 1 + Tms.sz (ps.take j) = (i + 1 + Tms.sz (ps.take j)) + 1 by omega]
    simp only [List.getElem?_cons_succ]
    have := nks_dn ps0 n (dp + 1) h0.pre.length (n + 1) i h ps pq d s j p e ej
    rw [this]
    simp
    omega
theorem nks_dn : ∀ (qs : List Tm) (par dp sp n i : Nat) (h : Hd) (ps : List Tm) (pq : Option Nat) (d s j : Nat) (p : Tm), (nks qs par dp sp n)[i]? = some (.nd h ps, pq, d, s) → ps[j]? = some p →
    (nks qs par dp sp n)[i + 1 + Tms.sz (ps.take j)]? = some (p, some (n + i), d + 1, h.pre.length + j)
  | [], par, dp, sp, n, i, h, ps, pq, d, s, j, p, e, ej => by rw [nks] at e; simp at e
  | q :: qs, par, dp, sp, n, i, h, ps, pq, d, s, j, p, e, ej => by
    rw [nks] at e ⊢
    by_cases hi : i < q.sz
    · rw [List.getElem?_append_left (by rw [nk_len]; exact hi)] at e
      have := nk_dn q (some par) dp sp n i h ps pq d s j p e ej
      rw [List.getElem?_append_left (List.getElem?_eq_some_iff.mp this).1]
      exact this
    · rw [List.getElem?_append_right (by rw [nk_len]; omega), nk_len] at e
      have := nks_dn qs par dp (sp + 1) (n + q.sz) (i - q.sz) h ps pq d s j p e ej
      rw [List.getElem?_append_right (by rw [nk_len]; omega), nk_len, show i + 1 + Tms.sz (ps.take j) - q.sz = i - q.sz + 1 + Tms.sz (ps.take j) by omega, this]
      simp
      omega
theorem nks_kid : ∀ (qs : List Tm) (par dp sp n j : Nat) (p : Tm), qs[j]? = some p → (nks qs par dp sp n)[Tms.sz (qs.take j)]? = some (p, some par, dp, sp + j)
  | [], par, dp, sp, n, j, p, e => by simp at e
  | q :: qs, par, dp, sp, n, 0, p, e => by
    simp at e
    subst e
    obtain ⟨h, ps⟩ := q
    simp [nks, nk]
  | q :: qs, par, dp, sp, n, j + 1, p, e => by
    simp at e
    have := nks_kid qs par dp (sp + 1) (n + q.sz) j p e
    rw [nks, List.getElem?_append_right (by rw [nk_len]; simp), nk_len]
    simp [this]
    omega
end
theorem rows_dn {t : Tm} {m j lv s : Nat} {h : Hd} {ps : List Tm} {pq : Option Nat} {p : Tm} (e : (rows0 t)[m]? = some (.nd h ps, pq, lv, s)) (ej : ps[j]? = some p) :
    (rows0 t)[m + 1 + Tms.sz (ps.take j)]? = some (p, some m, lv + 1, h.pre.length + j) := by
  have := nk_dn t none 1 0 0 m h ps pq lv s j p e ej
  simpa [rows0] using this
mutual
theorem heads_nk : ∀ (t : Tm) (par : Option Nat) (dp sp n : Nat), t.heads = (nk t par dp sp n).map fun r => r.1.hd
  | .nd h ps, par, dp, sp, n => by rw [nk, heads_nd, List.map_cons, heads_nks ps n (dp + 1) h.pre.length (n + 1)]; rfl
theorem heads_nks : ∀ (ps : List Tm) (par dp sp n : Nat), Tms.heads ps = (nks ps par dp sp n).map fun r => r.1.hd
  | [], par, dp, sp, n => by rw [nks]; rfl
  | p :: ps, par, dp, sp, n => by rw [nks, heads_cons, List.map_append, heads_nk p (some par) dp sp n, heads_nks ps par dp (sp + 1) (n + p.sz)]
end
theorem heads_rows (t : Tm) : t.heads = (rows0 t).map fun r => r.1.hd := heads_nk t none 1 0 0
theorem heads_at {t u : Tm} {m lv s : Nat} {pq : Option Nat} (e : (rows0 t)[m]? = some (u, pq, lv, s)) : t.heads[m]? = some u.hd := by rw [heads_rows, List.getElem?_map, e]; rfl
mutual
theorem heads_sub : ∀ (t : Tm) (par : Option Nat) (dp sp n i : Nat) (u : Tm) (pq : Option Nat) (d s : Nat), (nk t par dp sp n)[i]? = some (u, pq, d, s) → (t.heads.drop i).take u.sz = u.heads
  | .nd h ps, par, dp, sp, n, 0, u, pq, d, s, e => by
    rw [nk] at e
    simp at e
    obtain ⟨rfl, rfl, rfl, rfl⟩ := e
    rw [List.drop_zero, List.take_of_length_le (by rw [heads_len]; exact Nat.le_refl _)]
  | .nd h ps, par, dp, sp, n, i + 1, u, pq, d, s, e => by
    rw [nk] at e
    simp only [List.getElem?_cons_succ] at e
    rw [heads_nd, List.drop_succ_cons]
    exact headss_sub ps n (dp + 1) h.pre.length (n + 1) i u pq d s e
theorem headss_sub : ∀ (ps : List Tm) (par dp sp n i : Nat) (u : Tm) (pq : Option Nat) (d s : Nat), (nks ps par dp sp n)[i]? = some (u, pq, d, s) → ((Tms.heads ps).drop i).take u.sz = u.heads
  | [], par, dp, sp, n, i, u, pq, d, s, e => by rw [nks] at e; simp at e
  | p :: ps, par, dp, sp, n, i, u, pq, d, s, e => by
    rw [nks] at e
    rw [heads_cons]
    by_cases hi : i < p.sz
    · rw [List.getElem?_append_left (by rw [nk_len]; exact hi)] at e
      have h1 := heads_sub p (some par) dp sp n i u pq d s e
      have h2 := (nk_up p (some par) dp sp n i u pq d s e).1
      rw [List.drop_append_of_le_length (by rw [heads_len]; omega), List.take_append_of_le_length (by rw [List.length_drop, heads_len]; omega), h1]
    · rw [List.getElem?_append_right (by rw [nk_len]; omega), nk_len] at e
      have h1 := headss_sub ps par dp (sp + 1) (n + p.sz) (i - p.sz) u pq d s e
      rw [List.drop_append, List.drop_of_length_le (by rw [heads_len]; omega), heads_len, List.nil_append, h1]
end
theorem rows_sub {t u : Tm} {m lv s : Nat} {pq : Option Nat} (e : (rows0 t)[m]? = some (u, pq, lv, s)) : (t.heads.drop m).take u.sz = u.heads := heads_sub t none 1 0 0 m u pq lv s e
theorem rows_lt {t u : Tm} {m lv s : Nat} {pq : Option Nat} (e : (rows0 t)[m]? = some (u, pq, lv, s)) : m + u.sz ≤ t.sz := (nk_up t none 1 0 0 m u pq lv s e).1
theorem rows_some (t : Tm) {m : Nat} (h : m < t.sz) : ∃ h ps pq lv s, (rows0 t)[m]? = some (.nd h ps, pq, lv, s) := by
  obtain ⟨⟨⟨h, ps⟩, pq, lv, s⟩, e⟩ : ∃ r, (rows0 t)[m]? = some r := ⟨_, List.getElem?_eq_getElem (by rw [rows0_len]; exact h)⟩
  exact ⟨h, ps, pq, lv, s, e⟩
/-- numbers of a node's children; the number behind its last -/
def kidsAt (t : Tm) (m : Nat) : List Nat := match (rows0 t)[m]? with
  | some (.nd _ ps, _) => kn (m + 1) ps
  | none => []
def endAt (t : Tm) (m : Nat) : Nat := match (rows0 t)[m]? with
  | some (u, _) => m + u.sz
  | none => 0
theorem kidsAt_e {t : Tm} {m lv s : Nat} {h : Hd} {ps : List Tm} {pq : Option Nat} (e : (rows0 t)[m]? = some (.nd h ps, pq, lv, s)) : kidsAt t m = kn (m + 1) ps := by unfold kidsAt; rw [e]
theorem endAt_e {t u : Tm} {m lv s : Nat} {pq : Option Nat} (e : (rows0 t)[m]? = some (u, pq, lv, s)) : endAt t m = m + u.sz := by unfold endAt; rw [e]
def tpar (t : Tm) : List T := (rows0 t).map fun r => oI r.2.1
def tlev (t : Tm) : List T := (rows0 t).map fun r => .int (r.2.2.1 : Nat)
def tkid (t : Tm) : List T := (List.range t.sz).map fun m => .lst ((kidsAt t m).map fun k => .int (k : Nat))
def tend (t : Tm) : List T := (List.range t.sz).map fun m => .int (endAt t m : Nat)
def treeT (t : Tm) : T := .tup [.lst (tpar t), .lst (tlev t), .lst (tkid t), .lst (tend t)]
def hdsT (t : Tm) : T := .lst (t.heads.map Hd.t)
@[simp] theorem ix_hd (h : Hd) (Q : O → Prop) : op2E ixT h.t (.int 0) (c := ⟨Q⟩) = Q (.sh (.str (Str.ofString h.w))) := by
  cases h <;> simp [Hd.t, Hd.pre, Hd.post, Hd.w]
/-- the nodes that wait while the tree is made, the last one first: number, children seen -/
def chain (t : Tm) : Nat → List (Nat × Nat) → Prop
  | n, [] => n = t.sz
  | n, (m, j) :: F => ∃ h ps pq lv s, (rows0 t)[m]? = some (.nd h ps, pq, lv, s) ∧ j ≤ ps.length ∧ n = m + 1 + Tms.sz (ps.take j) ∧ (∀ f ∈ F, f.1 < m) ∧ chain t (m + 1 + Tms.sz ps) F
def cnt (t : Tm) (F : List (Nat × Nat)) (m : Nat) : Nat := match F.lookup m with
  | some j => j
  | none => (kidsAt t m).length
def kd (t : Tm) (F : List (Nat × Nat)) (n : Nat) : List O := (List.range n).map fun m => .lst (((kidsAt t m).take (cnt t F m)).map fun k => .sh (.int (k : Nat)))
def en (t : Tm) (F : List (Nat × Nat)) (n : Nat) : List O := (List.range n).map fun m => .sh (.int ((if (F.lookup m).isSome then m + 1 else endAt t m : Nat) : Nat))
theorem look_none : ∀ {F : List (Nat × Nat)} {m : Nat}, (∀ f ∈ F, f.1 < m) → F.lookup m = none
  | [], m, _ => rfl
  | (a, b) :: F, m, h => by
    have h1 := h (a, b) (by simp)
    rw [List.lookup_cons, show (m == a) = false by simp; simp at h1; omega]
    exact look_none fun f hf => h f (List.mem_cons_of_mem _ hf)
theorem kd_len (t : Tm) (F : List (Nat × Nat)) (n : Nat) : (kd t F n).length = n := by simp [kd]
theorem en_len (t : Tm) (F : List (Nat × Nat)) (n : Nat) : (en t F n).length = n := by simp [en]
theorem kd_at (t : Tm) (F : List (Nat × Nat)) {n m : Nat} (h : m < n) : (kd t F n)[m]? = some (.lst (((kidsAt t m).take (cnt t F m)).map fun k => .sh (.int (k : Nat)))) := by
  unfold kd
  rw [List.getElem?_map, List.getElem?_range h]
  rfl
theorem en_at (t : Tm) (F : List (Nat × Nat)) {n m : Nat} (h : m < n) : (en t F n)[m]? = some (.sh (.int ((if (F.lookup m).isSome then m + 1 else endAt t m : Nat) : Nat))) := by
  unfold en
  rw [List.getElem?_map, List.getElem?_range h]
  rfl
/-- a node comes under the last one that waits -/
theorem kd_push {t : Tm} {F : List (Nat × Nat)} {m j n k : Nat} (hm : m < n) (hk : (kidsAt t m)[j]? = some k) (hn : k = n) :
    (kd t ((m, j) :: F) n).set m (.lst (((kidsAt t m).take j).map (fun k => O.sh (.int (k : Nat))) ++ [.sh (.int (n : Nat))])) ++ [.lst []] = kd t ((n, 0) :: (m, j + 1) :: F) (n + 1) := by
  subst hn
  apply List.ext_getElem?
  intro i
  by_cases h1 : i < k
  · rw [List.getElem?_append_left (by rw [List.length_set, kd_len]; exact h1), kd_at t _ (by omega : i < k + 1), List.getElem?_set]
    have e2 : (List.lookup i ((k, 0) :: (m, j + 1) :: F)) = (List.lookup i ((m, j + 1) :: F)) := by rw [List.lookup_cons, show (i == k) = false by simp; omega]
    by_cases h2 : m = i
    · subst h2
      rw [if_pos rfl, if_pos (by rw [kd_len]; exact h1)]
      unfold cnt
      rw [e2, List.lookup_cons, show (m == m) = true by simp]
      simp only
      rw [List.take_add_one, hk]
      simp
    · rw [if_neg h2, kd_at t _ h1]
      unfold cnt
      rw [e2, List.lookup_cons, List.lookup_cons, show (i == m) = false by simp; omega]
  · by_cases h3 : i = k
    · subst h3
      rw [List.getElem?_append_right (by rw [List.length_set, kd_len]; omega), List.length_set, kd_len, kd_at t _ (by omega)]
      unfold cnt
      simp
    · rw [List.getElem?_eq_none (by simp [kd_len]; omega), List.getElem?_eq_none (by simp [kd_len]; omega)]
theorem en_push {t : Tm} {F : List (Nat × Nat)} {m j n : Nat} :
    en t ((m, j) :: F) n ++ [.sh (.int ((n + 1 : Nat) : Nat))] = en t ((n, 0) :: (m, j + 1) :: F) (n + 1) := by
  unfold en
  rw [List.range_succ, List.map_append]
  congr 1
  · apply List.map_congr_left
    intro i hi
    have := List.mem_range.mp hi
    rw [List.lookup_cons, List.lookup_cons, List.lookup_cons, show (i == n) = false by simp; omega]
    cases (i == m) <;> simp
  · simp
theorem kd_pop {t : Tm} {F : List (Nat × Nat)} {m n : Nat} (hF : ∀ f ∈ F, f.1 < m) : kd t ((m, (kidsAt t m).length) :: F) n = kd t F n := by
  unfold kd
  apply List.map_congr_left
  intro i hi
  unfold cnt
  rw [List.lookup_cons]
  by_cases h : i = m
  · subst h
    rw [show (i == i) = true by simp, look_none hF]
  · rw [show (i == m) = false by simpa using h]
theorem en_pop {t : Tm} {F : List (Nat × Nat)} {m j n : Nat} (hF : ∀ f ∈ F, f.1 < m) (hm : m < n) : (en t ((m, j) :: F) n).set m (.sh (.int (endAt t m : Nat))) = en t F n := by
  apply List.ext_getElem?
  intro i
  by_cases h1 : i < n
  · rw [List.getElem?_set, en_at t _ h1, en_at t _ h1]
    by_cases h2 : m = i
    · subst h2
      rw [if_pos rfl, if_pos (by rw [en_len]; exact h1), look_none hF]
      simp
    · rw [if_neg h2, List.lookup_cons, show (i == m) = false by simp; omega]
  · rw [List.getElem?_eq_none (by simp [en_len]; omega), List.getElem?_eq_none (by simp [en_len]; omega)]
end Rd
end TL

/-! xRowApp run by simp -/
namespace TL
open PySem PySem.Spec PyProof.Rows L2
variable {j r m : Nat} {x : XE} {rest : XS} {D : ED} {ρ : R}
@[simp ↓] theorem w_xRowApp : xRowApp j r m x rest D ρ = ((∃ c, ρ[j]? = some (some c)) ∧ x ρ (fun oi ρ1 => slE ρ1[j]? (c := ⟨fun c => lstE c (c := ⟨fun os => intE oi.t (c := ⟨fun i => slE ρ1[m]? (c := ⟨fun om => shE om (c := ⟨fun t => optE (ixN os.length i) (c := ⟨fun k => optE os[k]? (c := ⟨fun ok => lstE ok (c := ⟨fun inner => ok = .lst inner ∧ inner.length < sizeLine ∧ r < ρ1.length ∧ onR ((ρ1.set j (some (c.re (.lst (os.set k (.lst (inner ++ [.sh t]))))))).set r none) (c := ⟨fun r => rest D r⟩)⟩)⟩)⟩)⟩)⟩)⟩)⟩)⟩)) D.ex) := by
  unfold xRowApp slotL slE lstE intE optE shE onR
  congr 1
  congr 1
  funext o ρ1
  cases ρ1[j]? with
  | none => rfl
  | some q => cases q with
    | none => rfl
    | some c =>
      dsimp only
      cases c.un <;> first
        | rfl
        | (rename_i os
           cases o.t <;> first
            | rfl
            | (rename_i i
               dsimp only
               cases ρ1[m]? with
               | none => rfl
               | some q2 => cases q2 with
                 | none => rfl
                 | some om => cases om <;> first
                    | rfl
                    | (dsimp only
                       cases ixN os.length i with
                       | none => rfl
                       | some k =>
                         dsimp only
                         cases os[k]? with
                         | none => rfl
                         | some ok => cases ok <;> simp [O.un] <;> (rename_i v o; cases o <;> simp))))
end TL

set_option maxHeartbeats 2000000
namespace TL
open PySem PySem.Spec PyProof.Rows L2
namespace Rd
def g__law_tree : GT := fun ts K _ => ∃ t : Tm, ts = [hdsT t] ∧ t.ok ∧ t.sz ≤ 100000 ∧ K (.sh (treeT t))
def tr_in (g__law_arity : PF) : XS := (xFor (xRng1 (xCons (xBor (xB ((un1 lenT)) (xCons (xName 5) (xNil)))) (xNil))) (gN 8) (xSeq (xAsg (xIxN 5 (xNeg (xC (.int 1)))) (gN 9)) (xSeq (xIfS (xBorT (x2T (intT fun i j => decide (i < j)) (xB ((un1 lenT)) (xCons (x2 ixT (xName 3) (xName 9)) (xNil))) (xCall g__law_arity (xCons (x2 ixT (x2 ixT (xName 0) (xName 9)) (xC (.int 0))) (xNil))))) ((fun D ρ => D.bk ρ)) (xNext)) (xSeq (xAsg (x2 addT (xName 6) (xC (.int 1))) (gIxN 4 (xName 9))) (xExp (xPop 5))))))
def tr_all (g__law_arity : PF) : XS := xSeq (xAsg (xLst (xNil)) (gN 1)) (xSeq (xAsg (xLst (xNil)) (gN 2)) (xSeq (xAsg (xLst (xNil)) (gN 3)) (xSeq (xAsg (xLst (xNil)) (gN 4)) (xSeq (xAsg (xLst (xNil)) (gN 5)) (xSeq (xFor (xRng1 (xCons (xB ((un1 lenT)) (xCons (xName 0) (xNil))) (xNil))) (gN 6) (xSeq (xExp (xApp 1 (xCons (xC .non) (xNil)))) (xSeq (xExp (xApp 2 (xCons (xC (.int 1)) (xNil)))) (xSeq (xIfS (xBorT (x2T (intT fun i j => decide (j < i)) (xB ((un1 lenT)) (xCons (xName 5) (xNil))) (xC (.int 0)))) (xSeq (xAsg (xIxN 5 (xNeg (xC (.int 1)))) (gIxN 1 (xName 6))) (xSeq (xAsg (x2 addT (xIxN 2 (xIxN 5 (xNeg (xC (.int 1))))) (xC (.int 1))) (gIxN 2 (xName 6))) (xRowApp 3 7 6 (xIxN 5 (xNeg (xC (.int 1)))) (xNext)))) (xNext)) (xSeq (xExp (xApp 3 (xCons (xLst (xNil)) (xNil)))) (xSeq (xExp (xApp 4 (xCons (x2 addT (xName 6) (xC (.int 1))) (xNil)))) (xSeq (xExp (xApp 5 (xCons (xName 6) (xNil)))) (tr_in g__law_arity)))))))) (xRet (xTup (xCons (xName 1) (xCons (xName 2) (xCons (xName 3) (xCons (xName 4) (xNil))))))))))))
def TopI (t : Tm) : List (Nat × Nat) → Prop
  | [] => True
  | (m, j) :: _ => j < (kidsAt t m).length
def pr0 (t : Tm) (n : Nat) : List O := ((rows0 t).take n).map fun r => .sh (oI r.2.1)
def lv0 (t : Tm) (n : Nat) : List O := ((rows0 t).take n).map fun r => .sh (.int (r.2.2.1 : Nat))
def wt (F : List (Nat × Nat)) : List O := F.reverse.map fun f => .sh (.int (f.1 : Nat))
@[simp] theorem frzA_cons (x : Option O) (r : R) : frzA (x :: r) = (x.map fun o => .sh o.t) :: frzA r := rfl
@[simp] theorem wt_cons (f : Nat × Nat) (F : List (Nat × Nat)) : wt (f :: F) = wt F ++ [.sh (.int (f.1 : Nat))] := by simp [wt]
@[simp] theorem wt_nil : wt [] = [] := rfl
theorem wt_len (F : List (Nat × Nat)) : (wt F).length = F.length := by simp [wt]
def trS (t : Tm) (n : Nat) (F : List (Nat × Nat)) (x6 x7 x8 x9 : Option O) : R := [some (.sh (hdsT t)), some (.lst (pr0 t n)), some (.lst (lv0 t n)), some (.lst (kd t F n)), some (.lst (en t F n)), some (.lst (wt F)), x6, x7, x8, x9]
def TrI (t : Tm) (n : Nat) (ρ : R) : Prop := ∃ F x6 x7 x8 x9, ρ = trS t n F x6 x7 x8 x9 ∧ ((n = 0 ∧ F = []) ∨ (0 < n ∧ chain t n F ∧ TopI t F))
theorem chain_len (t : Tm) : ∀ (F : List (Nat × Nat)) (n b : Nat), chain t n F → (∀ f ∈ F, f.1 < b) → F.length ≤ b
  | [], n, b, _, _ => by simp
  | (m, j) :: F, n, b, h, hb => by
    obtain ⟨h, ps, pq, lv, s, h1, h2, h3, h4, h5⟩ := h
    have := chain_len t F _ m h5 h4
    have := hb (m, j) (by simp)
    simp at this ⊢
    omega
theorem ok_rows {t : Tm} (ok : t.ok) {m lv s : Nat} {u : Tm} {pq : Option Nat} (e : (rows0 t)[m]? = some (u, pq, lv, s)) : u.ok := by
  have e2 := congrArg (fun l => l[m]?) (wk_nk t none 1 0 0 [])
  simp only [List.getElem?_map, show nk t none 1 0 0 = rows0 t from rfl, e, Option.map_some] at e2
  cases q : (wk t 1 0 [])[m]? with
  | none => rw [q] at e2; cases e2
  | some r =>
    rw [q] at e2
    have := wk_ok t 1 0 [] ok sc_ok_nil r (List.mem_of_getElem? q)
    simp at e2
    rw [← e2.1]
    exact this.1
theorem pl_tr_in (t : Tm) (ok : t.ok) (hs : t.sz ≤ 100000) (D : ED) (n : Nat) (F : List (Nat × Nat)) (x7 x8 x9 : Option O) (hn : n < t.sz) (hc : chain t (n + 1) F) (hF : F ≠ []) (hlt : ∀ f ∈ F, f.1 < n + 1)
    (hD : ∀ ρ, TrI t (n + 1) ρ → D.nx ρ) : tr_in g__law_arity.pf D (trS t (n + 1) F (some (.sh (.int (n : Nat)))) x7 x8 x9) := by
  have hl := chain_len t F _ _ hc hlt
  unfold tr_in trS
  simp
  refine foI ?_
  simp [O.ts_map, wt_len]
  refine ⟨by omega, ?_⟩
  refine forI (fun i ρ => ∃ G x8 x9, ρ = trS t (n + 1) G (some (.sh (.int (n : Nat)))) x7 x8 x9 ∧ chain t (n + 1) G ∧ (∀ f ∈ G, f.1 < n + 1) ∧ G.length + i = F.length) ⟨F, x8, x9, rfl, hc, hlt, rfl⟩ ?_ ?_
  · rintro i u ρ hi ⟨G, x8, x9, rfl, hG, hGl, hGn⟩
    obtain ⟨rfl, hilt⟩ := range_at hi
    cases G with
    | nil => simp at hGn; omega
    | cons f G =>
      obtain ⟨m, j⟩ := f
      obtain ⟨h, ps, pq, lv, s, e1, e2, e3, e4, e5⟩ := id hG
      have hml : m < n + 1 := hGl (m, j) (by simp)
      have hps : ps.length = h.ar := (ok_nd.mp (ok_rows ok e1)).1
      have hka := kidsAt_e e1
      have hkl : (kidsAt t m).length = ps.length := by rw [hka, kn_len]
      have hcnt : cnt t ((m, j) :: G) m = j := by simp [cnt]
      have hh : t.heads[m]? = some h := heads_at e1
      have hkd : (O.ts (kd t ((m, j) :: G) (n + 1)))[m]? = some (.lst (((kidsAt t m).take j).map fun k => .int (k : Nat))) := by
        rw [O.ts_map, List.getElem?_map, kd_at t _ hml, hcnt]
        simp
      have hjk : min j (kidsAt t m).length = j := by omega
      have hen := en_len t ((m, j) :: G) (n + 1)
      have hix : ixN (n + 1) (m : Int) = some m := ixN_nat _ _ hml
      unfold trS hdsT
      simp [hkd, hh]
      refine ⟨h, rfl, ?_⟩
      simp [hjk]
      by_cases c : j < h.ar
      · simp [c]
        exact hD _ ⟨(m, j) :: G, some (.sh (.int (n : Nat))), x7, some (.sh (.int (i : Nat))), some (.sh (.int (m : Nat))), by simp [trS, hdsT], .inr ⟨by omega, hG, by show j < _; omega⟩⟩
      · simp [c, hen, hix]
        obtain rfl : j = ps.length := by omega
        rw [List.take_length] at e3
        have hen2 : ((n : Int) + 1) = ((endAt t m : Nat) : Int) := by
          rw [endAt_e e1, sz_nd]
          omega
        refine ⟨G, ⟨?_, ?_, rfl⟩, by rw [e3]; exact e5, fun a b hf => by have := e4 _ hf; simp at this; omega, by simp at hGn; omega⟩
        · rw [← hkl, kd_pop e4]
        · rw [hen2, en_pop e4 hml]
  · rintro ρ ⟨G, x8, x9, rfl, hG, hGl, hGn⟩
    simp at hGn
    subst hGn
    exact hD _ ⟨[], _, _, _, _, rfl, .inr ⟨by omega, hG, trivial⟩⟩
theorem set_snoc {α : Type} (l : List α) (x y : α) {n : Nat} (h : l.length = n) : (l ++ [x]).set n y = l ++ [y] := by
  subst h
  rw [List.set_append_right _ _ (Nat.le_refl _), Nat.sub_self]
  rfl
theorem pr0_len {t : Tm} {n : Nat} (h : n ≤ t.sz) : (pr0 t n).length = n := by simp [pr0]; omega
theorem lv0_len {t : Tm} {n : Nat} (h : n ≤ t.sz) : (lv0 t n).length = n := by simp [lv0]; omega
theorem pr0_succ {t u : Tm} {n lv s : Nat} {pq : Option Nat} (e : (rows0 t)[n]? = some (u, pq, lv, s)) : pr0 t (n + 1) = pr0 t n ++ [.sh (oI pq)] := by
  unfold pr0
  rw [List.take_add_one, e]
  simp
theorem lv0_succ {t u : Tm} {n lv s : Nat} {pq : Option Nat} (e : (rows0 t)[n]? = some (u, pq, lv, s)) : lv0 t (n + 1) = lv0 t n ++ [.sh (.int (lv : Nat))] := by
  unfold lv0
  rw [List.take_add_one, e]
  simp
theorem lv0_at {t u : Tm} {n m lv s : Nat} {pq : Option Nat} (e : (rows0 t)[m]? = some (u, pq, lv, s)) (h : m < n) : (lv0 t n)[m]? = some (.sh (.int (lv : Nat))) := by
  unfold lv0
  rw [List.getElem?_map, List.getElem?_take, if_pos h, e]
  rfl
theorem pl__law_tree (ts : List T) (K0 : O → Prop) (Z0 : ZX) (h : g__law_tree ts K0 Z0) : x__law_tree g__law_arity.pf (endP K0 Z0) (TL.slots 10 ts) := by
  obtain ⟨t, rfl, ok, hs, hk⟩ := h
  change tr_all _ _ _
  unfold tr_all
  simp
  refine foI ?_
  simp [hdsT, heads_len]
  refine ⟨by omega, ?_⟩
  refine forI (TrI t) ⟨[], none, none, none, none, by simp [trS, hdsT, pr0, lv0, kd, en], .inl ⟨rfl, rfl⟩⟩ ?_ ?_
  · rintro n u ρ hi ⟨F, x6, x7, x8, x9, rfl, hF⟩
    obtain ⟨rfl, hn⟩ := range_at hi
    obtain ⟨h, ps, pq, lv, s, e⟩ := rows_some t hn
    have hpl := pr0_len (t := t) (n := n) (by omega)
    have hll := lv0_len (t := t) (n := n) (by omega)
    have hix : ixN (n + 1) (n : Int) = some n := ixN_nat _ _ (by omega)
    unfold trS
    simp [hpl, hll]
    refine ⟨by omega, ?_⟩
    have fin : ∀ (D : ED) (F : List (Nat × Nat)) (x7 x8 x9 : Option O), chain t (n + 1) F → F ≠ [] → (∀ f ∈ F, f.1 < n + 1) → D.nx = TrI t (n + 1) → tr_in g__law_arity.pf D (trS t (n + 1) F (some (.sh (.int (n : Nat)))) x7 x8 x9) := fun D F x7 x8 x9 h1 h2 h3 h4 =>
      pl_tr_in t ok hs D n F x7 x8 x9 hn h1 h2 h3 fun ρ z => h4 ▸ z
    rcases hF with ⟨rfl, rfl⟩ | ⟨h0, hc, ht⟩
    · simp [kd, en]
      have h0 : (rows0 t)[0]? = some (t, none, 1, 0) := by
        obtain ⟨h1, ps1⟩ := t
        simp [rows0, nk]
      rw [h0] at e
      simp at e
      obtain ⟨rfl, rfl, rfl, rfl⟩ := e
      have h1 := fin { nx := TrI (Tm.nd h ps) (0 + 1), rt := fun o _ => K0 o, bk := xRet (xTup (xCons (xName 1) (xCons (xName 2) (xCons (xName 3) (xCons (xName 4) xNil))))) (endP K0 Z0), ct := TrI (Tm.nd h ps) (0 + 1), ex := fun C fs ts _ => Z0 C fs ts } [(0, 0)] x7 x8 x9 ⟨h, ps, none, 1, 0, h0, by omega, by simp, by simp, by simp [chain]⟩ (by simp) (by simp) rfl
      have q1 : pr0 (Tm.nd h ps) (0 + 1) = [.sh .non] := by rw [pr0_succ h0]; simp [pr0]
      have q2 : lv0 (Tm.nd h ps) (0 + 1) = [.sh (.int 1)] := by rw [lv0_succ h0]; simp [lv0]
      simp only [trS, q1, q2] at h1
      simpa [trS, kd, en, cnt, pr0, lv0] using h1
    · cases F with
      | nil =>
        have : n = t.sz := hc
        omega
      | cons f F =>
        obtain ⟨m, j⟩ := f
        obtain ⟨h', ps', pq', lv', s', e1, e2, e3, e4, e5⟩ := id hc
        have hka := kidsAt_e e1
        have hj : j < ps'.length := by
          have : j < (kidsAt t m).length := ht
          rw [hka, kn_len] at this
          exact this
        have hkl : (kidsAt t m).length = ps'.length := by rw [hka, kn_len]
        have hps : ps'.length = h'.ar := (ok_nd.mp (ok_rows ok e1)).1
        have har : h'.ar ≤ 3 := by cases h' <;> simp [Hd.ar]
        obtain ⟨p, ep⟩ : ∃ p, ps'[j]? = some p := ⟨_, List.getElem?_eq_getElem hj⟩
        have ed := rows_dn e1 ep
        have en1 : m + 1 + Tms.sz (ps'.take j) = n := e3.symm
        rw [en1, e] at ed
        simp at ed
        obtain ⟨rfl, rfl, rfl, rfl⟩ := ed
        have hmn : m < n := by omega
        have hlv := lv0_at (n := n) e1 hmn
        have hkd := kd_at t ((m, j) :: F) hmn
        have hcnt : cnt t ((m, j) :: F) m = j := by simp [cnt]
        rw [hcnt] at hkd
        have hkdl := kd_len t ((m, j) :: F) n
        have hixm : ixN n (m : Int) = some m := ixN_nat _ _ hmn
        have hkn : (kidsAt t m)[j]? = some n := by rw [hka, kn_get _ _ _ hj, en1]
        have hlv2 : ∀ x, (lv0 t n ++ [x])[m]? = some (.sh (.int (lv' : Nat))) := fun x => by rw [List.getElem?_append_left (by omega)]; exact hlv
        have hjk : min j (kidsAt t m).length = j := by omega
        simp [hpl, hll, hix, set_snoc _ _ _ hpl, set_snoc _ _ _ hll, hlv2, hkd, hkdl, hixm, hjk]
        refine ⟨by omega, by omega, by rw [en_len]; omega, by rw [wt_len]; have := chain_len t F _ m e5 e4; omega, ?_⟩
        have h1 := fun D x7 x8 x9 => fin D ((n, 0) :: (m, j + 1) :: F) x7 x8 x9 ⟨h, ps, some m, lv' + 1, _, e, by omega, by simp, fun f hf => by
          rcases List.mem_cons.mp hf with rfl | hf
          · exact hmn
          · have := e4 f hf; omega, h', ps', pq', lv', s', e1, by omega, by rw [List.take_add_one, ep, sz_app]; simp; omega, e4, e5⟩ (by simp) (fun f hf => by
          rcases List.mem_cons.mp hf with rfl | hf
          · simp
          · rcases List.mem_cons.mp hf with rfl | hf
            · simp; omega
            · have := e4 f hf; omega)
        have h2 := h1 { nx := TrI t (n + 1), rt := fun o _ => K0 o, bk := xRet (xTup (xCons (xName 1) (xCons (xName 2) (xCons (xName 3) (xCons (xName 4) xNil))))) (endP K0 Z0), ct := TrI t (n + 1), ex := fun C fs ts _ => Z0 C fs ts } none x8 x9 rfl
        rw [← List.map_take, kd_push hmn hkn rfl]
        have h3 := en_push (t := t) (F := F) (m := m) (j := j) (n := n)
        simp at h3
        rw [h3]
        simpa [trS, pr0_succ e, lv0_succ e] using h2
  · rintro ρ ⟨F, x6, x7, x8, x9, rfl, hF⟩
    have e0 : F = [] := by
      rcases hF with ⟨_, rfl⟩ | ⟨h0, hc, ht⟩
      · rfl
      · cases F with
        | nil => rfl
        | cons f F =>
          obtain ⟨m, j⟩ := f
          obtain ⟨h', ps', pq', lv', s', e1, e2, e3, e4, e5⟩ := id hc
          have hj : j < ps'.length := by
            have : j < (kidsAt t m).length := ht
            rw [kidsAt_e e1, kn_len] at this
            exact this
          have ed := rows_dn e1 (List.getElem?_eq_getElem hj)
          have := (List.getElem?_eq_some_iff.mp ed).1
          rw [rows0_len] at this
          simp at e3
          omega
    subst e0
    unfold trS
    simp
    have e1 : O.ts (pr0 t t.sz) = tpar t := by
      unfold pr0 tpar
      rw [List.take_of_length_le (by rw [rows0_len]; omega), O.ts_map, List.map_map]
      rfl
    have e2 : O.ts (lv0 t t.sz) = tlev t := by
      unfold lv0 tlev
      rw [List.take_of_length_le (by rw [rows0_len]; omega), O.ts_map, List.map_map]
      rfl
    have e3 : O.ts (kd t [] t.sz) = tkid t := by
      unfold kd tkid
      rw [O.ts_map, List.map_map]
      apply List.map_congr_left
      intro m hm
      simp [cnt]
    have e4 : O.ts (en t [] t.sz) = tend t := by
      unfold en tend
      rw [O.ts_map, List.map_map]
      apply List.map_congr_left
      intro m hm
      simp
    rw [e1, e2, e3, e4]
    exact hk
end Rd
end TL

set_option maxHeartbeats 2000000
/-! _law_binder, _law_closed -/
namespace TL
open PySem PySem.Spec PyProof.Rows L2
namespace Rd
mutual
theorem wk_up : ∀ (t : Tm) (par : Option Nat) (lv sp n : Nat) (sc : Sc) (i : Nat) (u : Tm) (pq : Option Nat) (d s : Nat) (u2 : Tm) (lv2 : Nat) (sc2 : Sc), (nk t par lv sp n)[i]? = some (u, pq, d, s) → (wk t lv n sc)[i]? = some (u2, lv2, sc2) →
    (i = 0 ∧ pq = par ∧ sc2 = sc) ∨ ∃ iq h ps lvq scq, pq = some (n + iq) ∧ iq < i ∧ (wk t lv n sc)[iq]? = some (.nd h ps, lvq, scq) ∧ sc2 = inn h (n + iq) scq
  | .nd h ps, par, lv, sp, n, sc, 0, u, pq, d, s, u2, lv2, sc2, e, e2 => by
    rw [nk] at e
    rw [wk] at e2
    simp at e e2
    obtain ⟨rfl, rfl, rfl, rfl⟩ := e
    obtain ⟨rfl, rfl, rfl⟩ := e2
    exact .inl ⟨rfl, rfl, rfl⟩
  | .nd h ps, par, lv, sp, n, sc, i + 1, u, pq, d, s, u2, lv2, sc2, e, e2 => by
    rw [nk] at e
    rw [wk] at e2 ⊢
    simp only [List.getElem?_cons_succ] at e e2
    rcases wks_up ps n (lv + 1) h.pre.length (n + 1) (inn h n sc) i u pq d s u2 lv2 sc2 e e2 with ⟨e3, e4⟩ | ⟨iq, h', ps', lvq, scq, e3, e4, e5, e6⟩
    · exact .inr ⟨0, h, ps, lv, sc, by simpa using e3, by omega, rfl, by simpa using e4⟩
    · exact .inr ⟨iq + 1, h', ps', lvq, scq, by rw [e3]; congr 1; omega, by omega, by simpa using e5, by rw [e6]; congr 1; omega⟩
theorem wks_up : ∀ (ps : List Tm) (par lv sp n : Nat) (sc : Sc) (i : Nat) (u : Tm) (pq : Option Nat) (d s : Nat) (u2 : Tm) (lv2 : Nat) (sc2 : Sc), (nks ps par lv sp n)[i]? = some (u, pq, d, s) → (wks ps lv n sc)[i]? = some (u2, lv2, sc2) →
    (pq = some par ∧ sc2 = sc) ∨ ∃ iq h ps' lvq scq, pq = some (n + iq) ∧ iq < i ∧ (wks ps lv n sc)[iq]? = some (.nd h ps', lvq, scq) ∧ sc2 = inn h (n + iq) scq
  | [], par, lv, sp, n, sc, i, u, pq, d, s, u2, lv2, sc2, e, e2 => by rw [nks] at e; simp at e
  | p :: ps, par, lv, sp, n, sc, i, u, pq, d, s, u2, lv2, sc2, e, e2 => by
    rw [nks] at e
    rw [wks] at e2 ⊢
    by_cases hi : i < p.sz
    · rw [List.getElem?_append_left (by rw [nk_len]; exact hi)] at e
      rw [List.getElem?_append_left (by rw [wk_len]; exact hi)] at e2
      rcases wk_up p (some par) lv sp n sc i u pq d s u2 lv2 sc2 e e2 with ⟨_, e3, e4⟩ | ⟨iq, h', ps', lvq, scq, e3, e4, e5, e6⟩
      · exact .inl ⟨e3, e4⟩
      · exact .inr ⟨iq, h', ps', lvq, scq, e3, e4, by rw [List.getElem?_append_left (by rw [wk_len]; omega)]; exact e5, e6⟩
    · rw [List.getElem?_append_right (by rw [nk_len]; omega), nk_len] at e
      rw [List.getElem?_append_right (by rw [wk_len]; omega), wk_len] at e2
      rcases wks_up ps par lv (sp + 1) (n + p.sz) sc (i - p.sz) u pq d s u2 lv2 sc2 e e2 with ⟨e3, e4⟩ | ⟨iq, h', ps', lvq, scq, e3, e4, e5, e6⟩
      · exact .inl ⟨e3, e4⟩
      · exact .inr ⟨p.sz + iq, h', ps', lvq, scq, by rw [e3]; congr 1; omega, by omega, by rw [List.getElem?_append_right (by rw [wk_len]; omega), wk_len, Nat.add_sub_cancel_left]; exact e5, by rw [e6]; congr 1; omega⟩
end
theorem wk0_up {t u : Tm} {i lv : Nat} {sc : Sc} (e : (wk t 1 0 [])[i]? = some (u, lv, sc)) : ∃ pq s, (rows0 t)[i]? = some (u, pq, lv, s) ∧
    ((pq = none ∧ sc = []) ∨ ∃ q h ps lvq scq, pq = some q ∧ q < i ∧ (wk t 1 0 [])[q]? = some (.nd h ps, lvq, scq) ∧ sc = inn h q scq) := by
  obtain ⟨pq, s, e1⟩ := nk_at e
  refine ⟨pq, s, e1, ?_⟩
  rcases wk_up t none 1 0 0 [] i u pq lv s u lv sc e1 e with ⟨_, e3, e4⟩ | ⟨iq, h', ps', lvq, scq, e3, e4, e5, e6⟩
  · exact .inl ⟨e3, e4⟩
  · exact .inr ⟨iq, h', ps', lvq, scq, by simpa using e3, e4, e5, by simpa using e6⟩
theorem hd_isD {h : Hd} (g : h.good) : h.t.isD = true ∧ h.t.d.depth ≤ 64 := by
  cases h with
  | note f =>
    have h1 := g.1
    have h2 := g.2.1
    simp [Hd.t, Hd.pre, Hd.post, h1]
    omega
  | con w | nam w | use w | fn w | pick w =>
    have h1 : PyData.strOk w = true := g
    simp [Hd.t, Hd.pre, Hd.post, h1]
  | _ => simp [Hd.t, Hd.pre, Hd.post]
@[simp] theorem ix_hdnam (x : Str) (Q : O → Prop) : op2E ixT (Hd.nam x).t (.int 1) (c := ⟨Q⟩) = Q (.sh (.str x)) := by simp [Hd.t, Hd.pre, Hd.post]
theorem eqv_hd (h : Hd) (x : Str) : PyData.eqv h.t.d (.tuple [.str "fn", .str x]) = bnd h x := by
  cases h <;> simp [Hd.t, Hd.pre, Hd.post, bnd]
def g__law_binder : GT := fun ts K _ => ∃ (t : Tm) (n lv : Nat) (x : Str) (ps : List Tm) (sc : Sc), ts = [hdsT t, .lst (tpar t), .int (n : Nat)] ∧ t.ok ∧ t.sz ≤ 100000 ∧ (wk t 1 0 [])[n]? = some (.nd (.nam x) ps, lv, sc) ∧ K (.sh (oI (sc.lookup x)))
/-- the names bound inside of a node -/
def InSc (t : Tm) : Option Nat → Sc → Prop
  | none, S => S = []
  | some k, S => ∃ h ps lv sc, (wk t 1 0 [])[k]? = some (.nd h ps, lv, sc) ∧ S = inn h k sc
theorem pl__law_binder (ts : List T) (K0 : O → Prop) (Z0 : ZX) (h : g__law_binder ts K0 Z0) : x__law_binder (endP K0 Z0) (TL.slots 5 ts) := by
  obtain ⟨t, n, lv, x, ps, sc, rfl, ok, hs, e, hk⟩ := h
  obtain ⟨pq, s, e1, e2⟩ := wk0_up e
  have hp : (tpar t)[n]? = some (oI pq) := by unfold tpar; rw [List.getElem?_map, e1]; rfl
  have hx : sOk x := (ok_nd.mp (wk_ok t 1 0 [] ok sc_ok_nil _ (List.mem_of_getElem? e)).1).2.1
  have hxs : PyData.strOk x = true := hx
  have hn : n < t.sz := by have := (List.getElem?_eq_some_iff.mp e).1; rwa [wk_len] at this
  have hh : t.heads[n]? = some (.nam x) := heads_at e1
  unfold x__law_binder
  simp [hdsT, hp]
  refine foI ?_
  simp [heads_len]
  refine ⟨by omega, ?_⟩
  refine forI (fun i ρ => ∃ q S x4, ρ = [some (.sh (hdsT t)), some (.sh (.lst (tpar t))), some (.sh (.int (n : Nat))), some (.sh (oI q)), x4] ∧ InSc t q S ∧ S.lookup x = sc.lookup x ∧ ∀ k, q = some k → k + i < n) ⟨pq, ?_⟩ ?_ ?_
  · rcases e2 with ⟨rfl, rfl⟩ | ⟨q, h, ps', lvq, scq, rfl, e3, e4, rfl⟩
    · exact ⟨[], none, rfl, rfl, rfl, by simp⟩
    · exact ⟨_, none, rfl, ⟨h, ps', lvq, scq, e4, rfl⟩, rfl, fun k z => by cases z; omega⟩
  · rintro i u ρ hi ⟨q, S, x4, rfl, hS, hl, hq⟩
    obtain ⟨rfl, hilt⟩ := range_at hi
    simp
    cases q with
    | none =>
      have hS' : S = [] := hS
      subst hS'
      simp
      rw [← hl] at hk
      exact hk
    | some k =>
      obtain ⟨h, ps', lvk, sck, e3, rfl⟩ := hS
      obtain ⟨pk, sk, e4, e5⟩ := wk0_up e3
      have hg := (ok_nd.mp (wk_ok t 1 0 [] ok sc_ok_nil _ (List.mem_of_getElem? e3)).1).2.1
      obtain ⟨hd1, hd2⟩ := hd_isD hg
      have hhk : t.heads[k]? = some h := heads_at e4
      have hpk : (tpar t)[k]? = some (oI pk) := by unfold tpar; rw [List.getElem?_map, e4]; rfl
      have hkn := hq k rfl
      simp [hdsT, hhk, hh, hd1, hd2, hxs, eqv_hd]
      by_cases hb : bnd h x = true
      · have e6 := bnd_fn hb
        subst e6
        simp [hb]
        have : sc.lookup x = some k := by rw [← hl, lookup_inn]; simp
        rw [this] at hk
        exact hk
      · simp [hb, hpk]
        have hl2 : sck.lookup x = sc.lookup x := by
          rw [← hl, lookup_inn]
          cases h <;> first
            | rfl
            | (rename_i y
               have : ¬ x = y := fun z => hb (by simp [bnd, z])
               simp [this])
        rcases e5 with ⟨rfl, rfl⟩ | ⟨q, h', ps2, lvq, scq, rfl, e6, e7, rfl⟩
        · exact ⟨none, ⟨rfl, rfl⟩, [], rfl, hl2, by simp⟩
        · exact ⟨some q, ⟨rfl, rfl⟩, _, ⟨h', ps2, lvq, scq, e7, rfl⟩, hl2, fun j z => by cases z; omega⟩
  · rintro ρ ⟨q, S, x4, rfl, hS, hl, hq⟩
    cases q with
    | none =>
      have hS' : S = [] := hS
      subst hS'
      simp
      rw [← hl] at hk
      exact hk
    | some k =>
      have := hq k rfl
      simp at this
      omega
/-! closed -/
def g__law_closed : GT := fun ts K _ => ∃ c : Tm, ts = [hdsT c] ∧ c.ok ∧ c.sz ≤ 100000 ∧ K (.sh (.bl (ff c).isNone))
def isNm (c : Tm) (n : Nat) : Bool := (c.heads[n]?).any fun h => decide (h.w = "name")
def isFr (c : Tm) (n : Nat) : Bool := ((wk c 1 0 [])[n]?).any free
def nmF (c : Tm) : T → Option O
  | .int i => if isNm c i.toNat then some (.sh (.int i)) else none
  | _ => none
def frF (c : Tm) : T → O
  | .int i => .sh (.bl (isFr c i.toNat))
  | _ => .sh .non
theorem bls_map {α : Type} (l : List α) (f : α → Bool) : T.bls (l.map fun a => .bl (f a)) = some (l.map f) := by
  induction l with
  | nil => rfl
  | cons a l ih =>
    show (T.bls (l.map fun a => .bl (f a))).map _ = _
    rw [ih]
    rfl
theorem filt_range (f : T → Option O) (p : Nat → Bool) (n : Nat) (h : ∀ i, i < n → f (.int (i : Nat)) = if p i then some (.sh (.int (i : Nat))) else none) : (rangeL 0 n).filterMap f = ((List.range n).filter p).map fun (i : Nat) => .sh (.int (i : Nat)) := by
  unfold rangeL
  rw [List.filterMap_map]
  have e : ∀ l : List Nat, (∀ i ∈ l, i < n) → l.filterMap (f ∘ fun (i : Nat) => T.int (0 + (i : Int))) = (l.filter p).map fun (i : Nat) => O.sh (.int (i : Nat)) := fun l => by
    induction l with
    | nil => intro _; rfl
    | cons a l ih =>
      intro hl
      have h1 := h a (hl a (by simp))
      have h2 := ih fun i hi => hl i (by simp [hi])
      have h3 : (f ∘ fun (i : Nat) => T.int (0 + (i : Int))) a = if p a then some (.sh (.int (a : Nat))) else none := by
        show f (.int (0 + (a : Int))) = _
        rw [Int.zero_add]
        exact h1
      rw [List.filterMap_cons, h3, h2]
      cases hp : p a <;> simp [hp]
  exact e _ fun i hi => by simpa using hi
theorem range_mem {lo : Int} {n : Nat} {t : T} (h : t ∈ rangeL lo n) : ∃ i : Nat, i < n ∧ t = .int (lo + i) := by
  obtain ⟨i, hi⟩ := List.getElem?_of_mem h
  obtain ⟨h1, h2⟩ := range_at hi
  exact ⟨i, h2, h1⟩
theorem wk_hd {t : Tm} {n : Nat} {r : Row} (e : (wk t 1 0 [])[n]? = some r) : t.heads[n]? = some r.1.hd := by
  obtain ⟨u, lv, sc⟩ := r
  obtain ⟨pq, s, e1⟩ := nk_at e
  exact heads_at e1
theorem ff_any (c : Tm) : ((List.range c.sz).filter (isNm c)).any (isFr c) = !(ff c).isNone := by
  have h1 : (ff c).isNone = true ↔ ∀ r ∈ wk c 1 0 [], free r = false := by
    unfold ff
    rw [Option.isNone_iff_eq_none, Option.map_eq_none_iff, List.find?_eq_none]
    simp
  cases hf : (ff c).isNone with
  | true =>
    have h2 := h1.mp hf
    show _ = false
    apply Bool.eq_false_iff.mpr
    intro z
    obtain ⟨n, hn, hz⟩ := List.any_eq_true.mp z
    unfold isFr at hz
    cases q : (wk c 1 0 [])[n]? with
    | none => rw [q] at hz; cases hz
    | some r =>
      rw [q] at hz
      have := h2 r (List.mem_of_getElem? q)
      simp [this] at hz
  | false =>
    have h2 : ¬ ∀ r ∈ wk c 1 0 [], free r = false := fun z => by rw [h1.mpr z] at hf; cases hf
    have h3 : ∃ r ∈ wk c 1 0 [], free r = true := by
      apply Classical.byContradiction
      intro z
      exact h2 fun r hr => by
        cases q : free r with
        | false => rfl
        | true => exact absurd ⟨r, hr, q⟩ z
    obtain ⟨r, hr, hfr⟩ := h3
    obtain ⟨n, hn⟩ := List.getElem?_of_mem hr
    obtain ⟨x, hx⟩ := free_nam hfr
    have hlt : n < c.sz := by have := (List.getElem?_eq_some_iff.mp hn).1; rwa [wk_len] at this
    show _ = true
    rw [List.any_eq_true]
    refine ⟨n, List.mem_filter.mpr ⟨by simpa using hlt, ?_⟩, ?_⟩
    · unfold isNm
      rw [wk_hd hn, hx]
      simp [Hd.w]
    · unfold isFr
      rw [hn]
      simpa using hfr
theorem pl__law_closed (ts : List T) (K0 : O → Prop) (Z0 : ZX) (h : g__law_closed ts K0 Z0) : x__law_closed g__law_tree.pf g__law_binder.pf (endP K0 Z0) (TL.slots 4 ts) := by
  obtain ⟨c, rfl, ok, hs, hk⟩ := h
  unfold x__law_closed
  simp
  refine ⟨c, rfl, ok, hs, ?_⟩
  simp [treeT]
  refine lcI ?_
  simp [hdsT, heads_len]
  refine ⟨by omega, ?_⟩
  refine compFilt (f := nmF c) rfl (by simp; omega) ?_ fun t ht C E hC hE => ?_
  · rw [filt_range (nmF c) (isNm c) c.sz (fun i hi => by simp [nmF])]
    simp
    refine lcI ?_
    simp
    refine compMap (f := frF c) rfl (by simp; have := List.length_filter_le (isNm c) (List.range c.sz); simp at this; omega) ?_ fun t ht C E hE => ?_
    · have e2 : T.bls (((List.range c.sz).filter (isNm c)).map fun i => .bl (isFr c i)) = some _ := bls_map _ _
      simp [frF]
      rw [e2]
      have e3 := ff_any c
      simp
      simp at e3
      rw [e3]
      simpa using hk
    · simp at ht
      obtain ⟨n, ⟨hn, hnm⟩, rfl⟩ := ht
      obtain ⟨r, hr⟩ : ∃ r, (wk c 1 0 [])[n]? = some r := ⟨_, List.getElem?_eq_getElem (by rw [wk_len]; exact hn)⟩
      obtain ⟨⟨h, ps⟩, lv, sc⟩ := r
      have hh := wk_hd hr
      have hx : ∃ x, h = .nam x := by
        unfold isNm at hnm
        rw [hh] at hnm
        exact w_nam.mp (by simpa using hnm)
      obtain ⟨x, rfl⟩ := hx
      simp
      refine ⟨c, n, lv, x, ps, sc, rfl, ok, hs, hr, ?_⟩
      have e4 : isFr c n = (sc.lookup x).isNone := by unfold isFr; rw [hr]; rfl
      simp [oI_non]
      have e5 : frF c (.int (n : Nat)) = .sh (.bl (sc.lookup x).isNone) := by simp [frF, e4]
      rw [e5] at hE
      exact hE _ rfl
  · obtain ⟨n, hn, rfl⟩ := range_mem ht
    obtain ⟨r, hr⟩ : ∃ r, (wk c 1 0 [])[n]? = some r := ⟨_, List.getElem?_eq_getElem (by rw [wk_len]; exact hn)⟩
    have hh := wk_hd hr
    simp [hh]
    by_cases e : r.1.hd.w = "name"
    · simp [e]
      exact hE _ _ (by simp [nmF, isNm, hh, e]) rfl
    · simp [e]
      exact hC (by simp [nmF, isNm, hh, e]) _ rfl
end Rd
end TL

set_option maxHeartbeats 2000000
/-! _law_term -/
namespace TL
open PySem PySem.Spec PyProof.Rows L2
def rng3E (ts : List T) [c : Kb (List T → Prop)] : Prop := match ts with
  | [.int i, .int j, .int (-1)] => (-(2 ^ 62) ≤ i ∧ i < 2 ^ 62 ∧ -(2 ^ 62) ≤ j ∧ j < 2 ^ 62) ∧ c.k (rangeC i (-1) (i - j).toNat)
  | _ => False
@[simp] theorem rng3E_e {i j : Int} {f : List T → Prop} : rng3E [.int i, .int j, .int (-1)] (c := ⟨f⟩) = ((-(2 ^ 62) ≤ i ∧ i < 2 ^ 62 ∧ -(2 ^ 62) ≤ j ∧ j < 2 ^ 62) ∧ f (rangeC i (-1) (i - j).toNat)) := rfl
@[simp ↓] theorem w_xRng3 {y : XA} {ρ : R} {KI : List T → R → Prop} {Z : ZC} : xRng3 y ρ KI Z = y ρ (fun os ρ1 => rng3E (O.ts os) (c := ⟨fun ts => KI ts ρ1⟩)) Z := rfl
theorem rangeC_at {lo : Int} {n i : Nat} {t : T} (h : (rangeC lo (-1) n)[i]? = some t) : t = .int (lo - i) ∧ i < n := by
  unfold rangeC at h
  rw [List.getElem?_map] at h
  cases q : (List.range n)[i]? with
  | none => rw [q] at h; cases h
  | some j =>
    rw [q] at h
    cases h
    obtain ⟨h1, h2⟩ := List.getElem?_eq_some_iff.mp q
    rw [List.getElem_range] at h2
    subst h2
    exact ⟨by show T.int (lo + (i : Int) * -1) = _; rw [show lo + (i : Int) * -1 = lo - i by omega], by simpa using h1⟩
@[simp] theorem rangeC_len (lo : Int) (n : Nat) : (rangeC lo (-1) n).length = n := by simp [rangeC]
namespace Rd
mutual
def sfx : Tm → Nat → List Tm
  | .nd h ps, 0 => [.nd h ps]
  | .nd _ ps, k + 1 => sfxs ps k
def sfxs : List Tm → Nat → List Tm
  | [], _ => []
  | p :: ps, k => if k < p.sz then sfx p k ++ ps else sfxs ps (k - p.sz)
end
theorem sfx_0 (t : Tm) : sfx t 0 = [t] := by
  obtain ⟨h, ps⟩ := t
  rw [sfx]
theorem sfxs_0 : ∀ ps : List Tm, sfxs ps 0 = ps
  | [] => by rw [sfxs]
  | p :: ps => by rw [sfxs, if_pos (sz_pos p), sfx_0]; rfl
mutual
theorem sfx_end : ∀ t : Tm, sfx t t.sz = []
  | .nd h ps => by
    rw [sz_nd, Nat.add_comm, sfx]
    exact sfxs_end ps
theorem sfxs_end : ∀ ps : List Tm, sfxs ps (Tms.sz ps) = []
  | [] => by rw [sfxs]
  | p :: ps => by
    rw [sfxs, sz_cons, if_neg (by omega), Nat.add_sub_cancel_left]
    exact sfxs_end ps
end
mutual
theorem sfx_nk : ∀ (t : Tm) (par : Option Nat) (dp sp n k : Nat) (h : Hd) (ps : List Tm) (pq : Option Nat) (d s : Nat), (nk t par dp sp n)[k]? = some (.nd h ps, pq, d, s) → ∃ rest, sfx t k = .nd h ps :: rest ∧ sfx t (k + 1) = ps ++ rest
  | .nd h0 ps0, par, dp, sp, n, 0, h, ps, pq, d, s, e => by
    rw [nk] at e
    simp at e
    obtain ⟨⟨rfl, rfl⟩, rfl, rfl, rfl⟩ := e
    exact ⟨[], by rw [sfx], by rw [sfx, sfxs_0, List.append_nil]⟩
  | .nd h0 ps0, par, dp, sp, n, k + 1, h, ps, pq, d, s, e => by
    rw [nk] at e
    simp only [List.getElem?_cons_succ] at e
    rw [sfx, sfx]
    exact sfx_nks ps0 n (dp + 1) h0.pre.length (n + 1) k h ps pq d s e
theorem sfx_nks : ∀ (qs : List Tm) (par dp sp n k : Nat) (h : Hd) (ps : List Tm) (pq : Option Nat) (d s : Nat), (nks qs par dp sp n)[k]? = some (.nd h ps, pq, d, s) → ∃ rest, sfxs qs k = .nd h ps :: rest ∧ sfxs qs (k + 1) = ps ++ rest
  | [], par, dp, sp, n, k, h, ps, pq, d, s, e => by rw [nks] at e; simp at e
  | q :: qs, par, dp, sp, n, k, h, ps, pq, d, s, e => by
    rw [nks] at e
    rw [sfxs, sfxs]
    by_cases hi : k < q.sz
    · rw [List.getElem?_append_left (by rw [nk_len]; exact hi)] at e
      obtain ⟨rest, e1, e2⟩ := sfx_nk q (some par) dp sp n k h ps pq d s e
      refine ⟨rest ++ qs, by rw [if_pos hi, e1]; rfl, ?_⟩
      by_cases h2 : k + 1 < q.sz
      · rw [if_pos h2, e2, List.append_assoc]
      · have h3 : k + 1 = q.sz := by omega
        rw [h3, sfx_end] at e2
        have := List.append_eq_nil_iff.mp e2.symm
        rw [if_neg h2, h3, Nat.sub_self, sfxs_0, this.1, this.2]
        rfl
    · rw [List.getElem?_append_right (by rw [nk_len]; omega), nk_len] at e
      obtain ⟨rest, e1, e2⟩ := sfx_nks qs par dp (sp + 1) (n + q.sz) (k - q.sz) h ps pq d s e
      exact ⟨rest, by rw [if_neg hi]; exact e1, by rw [if_neg (by omega), show k + 1 - q.sz = k - q.sz + 1 by omega]; exact e2⟩
end
mutual
theorem sfx_sz : ∀ (t : Tm) (k : Nat), k ≤ t.sz → Tms.sz (sfx t k) + k = t.sz
  | .nd h ps, 0, _ => by rw [sfx]; simp
  | .nd h ps, k + 1, hk => by
    rw [sz_nd] at hk
    have := sfxs_sz ps k (by omega)
    rw [sfx, sz_nd]
    omega
theorem sfxs_sz : ∀ (ps : List Tm) (k : Nat), k ≤ Tms.sz ps → Tms.sz (sfxs ps k) + k = Tms.sz ps
  | [], k, hk => by rw [sfxs]; simp at hk; simp [hk]
  | p :: ps, k, hk => by
    rw [sz_cons] at hk
    rw [sfxs, sz_cons]
    by_cases h : k < p.sz
    · have := sfx_sz p k (by omega)
      rw [if_pos h, sz_app]
      omega
    · have := sfxs_sz ps (k - p.sz) (by omega)
      rw [if_neg h]
      omega
end
theorem len_sz : ∀ l : List Tm, l.length ≤ Tms.sz l
  | [] => by simp
  | a :: l => by have := len_sz l; have := sz_pos a; simp; omega
theorem hd_tm (h : Hd) (ps : List Tm) (hn : h.post = []) : T.tup (h.pre ++ h.post ++ Tms.T ps) = (Tm.nd h ps).T := by rw [Tm.T, hn]; simp
def g__law_term : GT := fun ts K _ => ∃ t : Tm, ts = [hdsT t] ∧ t.ok ∧ t.sz ≤ 100000 ∧ K (.sh t.T)
theorem pl__law_term (ts : List T) (K0 : O → Prop) (Z0 : ZX) (h : g__law_term ts K0 Z0) : x__law_term g__law_arity.pf (endP K0 Z0) (TL.slots 6 ts) := by
  obtain ⟨t, rfl, ok, hs, hk⟩ := h
  unfold x__law_term
  simp
  refine foI ?_
  simp [hdsT, heads_len]
  refine ⟨by omega, ?_⟩
  refine forI (fun i ρ => ∃ x2 x3 x4 x5, ρ = [some (.sh (hdsT t)), some (.lst ((sfx t (t.sz - i)).reverse.map fun u => .sh u.T)), x2, x3, x4, x5]) ⟨none, none, none, none, by simp [hdsT, sfx_end]⟩ ?_ ?_
  · rintro i u ρ hi ⟨x2, x3, x4, x5, rfl⟩
    obtain ⟨rfl, hilt⟩ := rangeC_at hi
    obtain ⟨k, hk1⟩ : ∃ k, t.sz = k + 1 + i := ⟨t.sz - 1 - i, by omega⟩
    have ek : ((t.sz : Nat) : Int) - 1 - (i : Int) = (k : Nat) := by omega
    rw [ek]
    obtain ⟨h, ps, pq, lv, s, e⟩ := rows_some t (show k < t.sz by omega)
    obtain ⟨rest, e1, e2⟩ := sfx_nk t none 1 0 0 k h ps pq lv s e
    have hh : t.heads[k]? = some h := heads_at e
    have hps : ps.length = h.ar := (ok_nd.mp (ok_rows ok e)).1
    have har : h.ar ≤ 3 := by cases h <;> simp [Hd.ar]
    have hrl := len_sz (sfx t k)
    have hrs := sfx_sz t k (by omega)
    rw [e1] at hrl hrs
    simp at hrl hrs
    rw [show t.sz - i = k + 1 by omega, show t.sz - (i + 1) = k by omega, e1, e2]
    simp [hdsT, hh]
    refine lcI ?_
    simp
    refine ⟨h, rfl, ?_⟩
    simp
    refine ⟨by omega, ?_⟩
    refine compI (fun j acc ρ => j ≤ ps.length ∧ acc = ((ps.take j).map fun u => .sh u.T) ∧ ρ = [some (.sh (hdsT t)), some (.lst ((ps.drop j ++ rest).reverse.map fun u => .sh u.T)), some (.sh (.int (k : Nat))), some (.sh h.t), x4, none]) ⟨by omega, by simp, by simp [hdsT]⟩ ?_ ?_
    · rintro j u acc ρ hj ⟨hjl, rfl, rfl⟩
      obtain ⟨rfl, hjlt⟩ := range_at hj
      have hj2 : j < ps.length := by omega
      obtain ⟨p, r, ed, er, ep⟩ : ∃ p r, ps.drop j = p :: r ∧ ps.drop (j + 1) = r ∧ ps[j]? = some p := ⟨_, _, List.drop_eq_getElem_cons hj2, rfl, List.getElem?_eq_getElem hj2⟩
      rw [List.take_add_one, ed, er, ep]
      simp
      omega
    · rintro acc ρ ⟨hjl, rfl, rfl⟩
      simp [← hps]
      by_cases hw : h.w = "note"
      · obtain ⟨f, rfl⟩ : ∃ f, h = .note f := by cases h <;> first | exact ⟨_, rfl⟩ | (simp [Hd.w] at hw)
        obtain ⟨p, rfl⟩ := len1 hps
        simp [Hd.w, Hd.t, Hd.pre, Hd.post]
        exact ⟨by omega, by simp [Tm.T, Hd.pre, Hd.post]⟩
      · have hq : h.post = [] := by cases h <;> first | rfl | exact absurd rfl hw
        have hpl : h.pre.length ≤ 2 := by cases h <;> simp [Hd.pre]
        simp [hw, Hd.t, hq]
        exact ⟨by omega, by omega, by simp [Tm.T, hq, tms_map]⟩
  · rintro ρ ⟨x2, x3, x4, x5, rfl⟩
    simp [sfx_0]
    exact hk
/-! _law_chain -/
/-- a row that is read the first time or again -/
def RowO (x : O) (l : List T) : Prop := x = .lst (l.map .sh) ∨ x = .sh (.lst l)
theorem nameE_row {x : O} {l : List T} (h : RowO x l) {ρ : R} {i : Nat} (hi : ρ[i]? = some (some x)) (f : O → R → Prop) : nameE x ρ i (c := ⟨f⟩) = f (.sh (.lst l)) (ρ.set i (some (.sh (.lst l)))) := by
  rcases h with rfl | rfl
  · simp
  · have : ρ.set i (some (.sh (.lst l))) = ρ := by
      apply List.ext_getElem?
      intro j
      rw [List.getElem?_set]
      by_cases e : i = j
      · subst e
        rw [if_pos rfl, if_pos (List.getElem?_eq_some_iff.mp hi).1, hi]
      · rw [if_neg e]
    rw [this]
    rfl
def g__law_chain : GI := fun o ts K _ => StoreOk o ∧ ∃ (x : Str) (lv n : Nat), ts = [.str x, .int lv, .int n] ∧ sOk x ∧ lv ≤ n ∧ n < 2 * lv ∧ n ≤ 1000 ∧ ∀ (c : Tm) o', StoreOk o' → c.ok → c.sz = n → (∀ h ∈ c.heads, ∀ f, h ≠ .note f) → K (.lst (c.heads.map fun h => .sh h.t)) o'
def NoN (l : List Hd) : Prop := ∀ h ∈ l, ∀ f, h ≠ .note f
theorem pl__law_chain (v0 : V) (o : O) (ts : List T) (K0 : O → O → Prop) (Z0 : ZX) (h : g__law_chain o ts K0 Z0) : x__law_chain g__law_pick.pf (endI v0 K0 Z0) (some (.io v0 o) :: TL.slots 6 ts) := by
  obtain ⟨ho, x, lv, n, rfl, hx, h1, h2, h3, hk⟩ := h
  obtain ⟨cells, p, n', l, c, b, t, rfl, hp, hn⟩ := id ho
  unfold x__law_chain
  simp
  refine foI ?_
  simp
  refine ⟨⟨by omega, by omega⟩, ?_⟩
  refine forI (fun i ρ => ∃ (o' : O) (out : List Hd) (x5 x6 : Option O), ρ = [some (.io v0 o'), some (.sh (.str x)), some (.sh (.int lv)), some (.sh (.int n)), some (.lst (out.map fun h => .sh h.t)), x5, x6] ∧ StoreOk o' ∧ Wants out 1 ∧ NoN out ∧ out.length = 2 * i) ⟨_, [], none, none, rfl, ho, Wants.nil, (fun h hh => by cases hh), rfl⟩ ?_ ?_
  · rintro i u ρ hi ⟨o', out, x5, x6, rfl, ho', hw, hnn, hl⟩
    obtain ⟨rfl, hilt⟩ := range_at hi
    have hil : i < n - lv := by omega
    simp
    refine ⟨ho', _, _, rfl, .inl rfl, by simp, by simp, fun y hy o2 ho2 => ?_⟩
    obtain ⟨h, rfl, har, hg, hno⟩ : ∃ h : Hd, y = h.t ∧ h.ar = 2 ∧ h.good ∧ ∀ f, h ≠ .note f := by
      simp at hy
      rcases hy with rfl | rfl
      · exact ⟨.pr, rfl, rfl, trivial, fun f => by simp⟩
      · exact ⟨.app, rfl, rfl, trivial, fun f => by simp⟩
    simp
    refine ⟨by omega, o2, out ++ [h, .hol], ⟨rfl, ?_⟩, ho2, ?_, ?_, by simp [hl]; omega⟩
    · simp [Hd.t, Hd.pre, Hd.post]
    · have w1 := hw.step hg
      rw [har] at w1
      have w2 := w1.step (h := .hol) trivial
      simpa [Hd.ar] using w2
    · intro k hk2
      rcases List.mem_append.mp hk2 with hk2 | hk2
      · exact hnn k hk2
      · simp at hk2
        rcases hk2 with rfl | rfl
        · exact hno
        · exact fun f => by simp
  · rintro ρ ⟨o', out, x5, x6, rfl, ho', hw, hnn, hl⟩
    obtain ⟨cells1, p1, n1, l1, c1, b1, t1, rfl, hp1, hn1⟩ := id ho'
    simp at hl
    simp
    refine lcI ?_
    simp
    refine ⟨cmul_r (by omega) (by omega), ?_⟩
    refine ⟨⟨by omega, by omega⟩, ?_⟩
    refine compI (fun i acc ρ => ∃ (o' : O) (ones : List Hd) (x6 : O), ρ = [some (.io v0 o'), some (.sh (.str x)), some (.sh (.int lv)), some (.sh (.int n)), some (.sh (.lst (out.map Hd.t))), none, some x6] ∧ RowO x6 [(Hd.fn x).t, Hd.lft.t, Hd.sel.t, Hd.uns.t] ∧ acc = (ones.map fun h => .sh h.t) ∧ StoreOk o' ∧ Wants (out ++ ones) 1 ∧ NoN ones ∧ ones.length = i) ⟨_, [], _, by simp [Hd.t, Hd.pre, Hd.post]; rfl, .inl (by simp [Hd.t, Hd.pre, Hd.post]), rfl, ho', by simpa using hw, (fun h hh => by cases hh), rfl⟩ ?_ ?_
    · rintro i u acc ρ hi ⟨o2, ones, x6, rfl, h6, rfl, ho2, hw2, hnn2, hl2⟩
      obtain ⟨rfl, hilt⟩ := range_at hi
      obtain ⟨cells2, p2, n2, l2, c2, b2, t2, rfl, hp2, hn2⟩ := id ho2
      simp
      rw [nameE_row h6 rfl]
      simp
      refine ⟨ho2, _, _, rfl, .inl rfl, by simp, by simp, fun y hy o3 ho3 => ?_⟩
      obtain ⟨h, rfl, har, hg, hno⟩ : ∃ h : Hd, y = h.t ∧ h.ar = 1 ∧ h.good ∧ ∀ f, h ≠ .note f := by
        simp at hy
        rcases hy with rfl | rfl | rfl | rfl
        · exact ⟨.fn x, rfl, rfl, hx, fun f => by simp⟩
        · exact ⟨.lft, rfl, rfl, trivial, fun f => by simp⟩
        · exact ⟨.sel, rfl, rfl, trivial, fun f => by simp⟩
        · exact ⟨.uns, rfl, rfl, trivial, fun f => by simp⟩
      have w1 := hw2.step hg
      rw [har] at w1
      simp
      refine ⟨by omega, o3, ones ++ [h], _, ⟨rfl, rfl⟩, .inr rfl, by simp, ho3, by simpa using w1, ?_, by simp [hl2]⟩
      intro k hk2
      rcases List.mem_append.mp hk2 with hk2 | hk2
      · exact hnn2 k hk2
      · simp at hk2
        subst hk2
        exact hno
    · rintro acc ρ ⟨o2, ones, x6, rfl, h6, rfl, ho2, hw2, hnn2, hl2⟩
      have w2 := hw2.step (h := .hol) trivial
      obtain ⟨cc, h6', h7, h8⟩ := Wants.sz w2
      simp at hl2
      simp
      refine ⟨by omega, by omega, ?_⟩
      have e : (out.map Hd.t ++ (ones.map Hd.t ++ [T.tup [.str "hole"]])).map O.sh = cc.heads.map fun h => .sh h.t := by
        rw [h7]
        simp
        rfl
      have h9 := hk cc o2 ho2 h6' (by rw [h8]; simp; omega) (by
        rw [h7]
        intro k hk2
        simp at hk2
        rcases hk2 with hk2 | hk2 | rfl
        · exact hnn k hk2
        · exact hnn2 k hk2
        · exact fun f => by simp)
      rw [← e] at h9
      simpa using h9
end Rd
end TL

set_option maxHeartbeats 4000000
/-! _law_reduct -/
namespace TL
open PySem PySem.Spec PyProof.Rows L2
namespace Rd
mutual
theorem wk_sub : ∀ (t : Tm) (lv n : Nat) (sc : Sc) (i : Nat) (u : Tm) (lv2 : Nat) (sc2 : Sc), (wk t lv n sc)[i]? = some (u, lv2, sc2) → ((wk t lv n sc).drop i).take u.sz = wk u lv2 (n + i) sc2
  | .nd h ps, lv, n, sc, 0, u, lv2, sc2, e => by
    have hl := wk_len (.nd h ps) lv n sc
    rw [wk] at e
    simp at e
    obtain ⟨rfl, rfl, rfl⟩ := e
    rw [List.drop_zero, List.take_of_length_le (by omega), Nat.add_zero]
  | .nd h ps, lv, n, sc, i + 1, u, lv2, sc2, e => by
    rw [wk] at e ⊢
    simp only [List.getElem?_cons_succ] at e
    rw [List.drop_succ_cons, wks_sub ps (lv + 1) (n + 1) (inn h n sc) i u lv2 sc2 e, show n + 1 + i = n + (i + 1) by omega]
theorem wks_sub : ∀ (ps : List Tm) (lv n : Nat) (sc : Sc) (i : Nat) (u : Tm) (lv2 : Nat) (sc2 : Sc), (wks ps lv n sc)[i]? = some (u, lv2, sc2) → ((wks ps lv n sc).drop i).take u.sz = wk u lv2 (n + i) sc2
  | [], lv, n, sc, i, u, lv2, sc2, e => by rw [wks] at e; simp at e
  | p :: ps, lv, n, sc, i, u, lv2, sc2, e => by
    rw [wks] at e ⊢
    by_cases hi : i < p.sz
    · rw [List.getElem?_append_left (by rw [wk_len]; exact hi)] at e
      have h1 := wk_sub p lv n sc i u lv2 sc2 e
      have h2 := congrArg List.length h1
      rw [wk_len, List.length_take, List.length_drop, wk_len] at h2
      rw [List.drop_append_of_le_length (by rw [wk_len]; omega), List.take_append_of_le_length (by rw [List.length_drop, wk_len]; omega), h1]
    · rw [List.getElem?_append_right (by rw [wk_len]; omega), wk_len] at e
      have h1 := wks_sub ps lv (n + p.sz) sc (i - p.sz) u lv2 sc2 e
      rw [List.drop_append, List.drop_of_length_le (by rw [wk_len]; omega), wk_len, List.nil_append, h1, show n + p.sz + (i - p.sz) = n + i by omega]
end
/-- a row of the body: the argument's heads for just the names that function k binds -/
def hitK (k : Nat) (r : Row) : Bool := match r.1.hd with
  | .nam y => decide (r.2.2.lookup y = some k)
  | _ => false
def putK (k : Nat) (c : Tm) (r : Row) : List Hd := if hitK k r then c.heads else [r.1.hd]
mutual
theorem put_sub (x : Str) (c : Tm) (k : Nat) : ∀ (b : Tm) (lv n : Nat) (sc : Sc), b.ok → k < n → (∀ y, sc.lookup y = some k → y = x) → (wk b lv n sc).flatMap (putK k c) = (if sc.lookup x = some k then sub x c b else b).heads
  | .nd h ps, lv, n, sc, ok, hk, hs => by
    obtain ⟨hl, _, hps⟩ := ok_nd.mp ok
    rw [wk, List.flatMap_cons]
    have other : (∀ y, h ≠ .nam y) → (∀ y, h ≠ .fn y) → putK k c (.nd h ps, lv, sc) ++ (wks ps (lv + 1) (n + 1) (inn h n sc)).flatMap (putK k c) = (if sc.lookup x = some k then sub x c (.nd h ps) else .nd h ps).heads := fun h1 h2 => by
      have e1 : inn h n sc = sc := by cases h <;> first | rfl | exact absurd rfl (h2 _)
      have e2 : putK k c (.nd h ps, lv, sc) = [h] := by
        unfold putK hitK
        cases h <;> first | rfl | exact absurd rfl (h1 _)
      rw [e1, e2, puts_sub x c k ps (lv + 1) (n + 1) sc hps (by omega) hs]
      split
      · rw [sub_in x c ps h1 (h2 x), heads_nd]; rfl
      · rw [heads_nd]; rfl
    cases h with
    | nam y =>
      obtain rfl := len0 hl
      rw [wks]
      by_cases e : y = x
      · subst e
        by_cases e2 : sc.lookup y = some k
        · rw [if_pos e2, sub_nam, if_pos rfl]
          simp [putK, hitK, e2]
        · rw [if_neg e2]
          simp [putK, hitK, e2]
      · have e2 : ¬ sc.lookup y = some k := fun z => e (hs y z)
        rw [sub_nam, if_neg e]
        simp [putK, hitK, e2]
    | fn y =>
      have e1 : putK k c (.nd (.fn y) ps, lv, sc) = [.fn y] := rfl
      rw [e1]
      have look : ∀ z, (inn (.fn y) n sc).lookup z = if z = y then some n else sc.lookup z := fun z => by rw [lookup_inn]
      have e2 := puts_sub x c k ps (lv + 1) (n + 1) (inn (.fn y) n sc) hps (by omega) (fun z hz => by
        rw [look] at hz
        split at hz
        · cases hz; omega
        · exact hs z hz)
      rw [e2, look]
      by_cases e : x = y
      · subst e
        rw [if_pos rfl, if_neg (by simp; omega), sub_fnx]
        simp
      · rw [if_neg e]
        split
        · rw [sub_in x c ps (fun _ => by simp) (by simp; exact fun z => e z.symm), heads_nd]; rfl
        · rw [heads_nd]; rfl
    | _ => exact other (fun _ => by simp) (fun _ => by simp)
theorem puts_sub (x : Str) (c : Tm) (k : Nat) : ∀ (ps : List Tm) (lv n : Nat) (sc : Sc), Tms.ok ps → k < n → (∀ y, sc.lookup y = some k → y = x) → (wks ps lv n sc).flatMap (putK k c) = Tms.heads (if sc.lookup x = some k then subs x c ps else ps)
  | [], lv, n, sc, _, _, _ => by rw [wks]; split <;> simp [subs]
  | p :: ps, lv, n, sc, ok, hk, hs => by
    rw [wks, List.flatMap_append, put_sub x c k p lv n sc ok.1 hk hs, puts_sub x c k ps lv (n + p.sz) sc ok.2 (by omega) hs]
    split <;> simp [subs]
end
theorem put_len (k : Nat) (c : Tm) : ∀ (l : List Row), (l.flatMap (putK k c)).length ≤ l.length * (c.sz + 1)
  | [] => by simp
  | r :: l => by
    have h1 := put_len k c l
    have h2 : (putK k c r).length ≤ c.sz + 1 := by
      unfold putK
      split
      · rw [heads_len]; omega
      · simp
    rw [List.flatMap_cons, List.length_append, List.length_cons, Nat.add_mul]
    omega
def rdh (u : Tm) : List Hd := if rdx u = true then (root u).heads else []
def g__law_reduct : GT := fun ts K _ => ∃ (t : Tm) (n : Nat) (u : Tm) (pq : Option Nat) (lv s : Nat), ts = [hdsT t, treeT t, .int (n : Nat)] ∧ t.ok ∧ t.sz ≤ 1000 ∧ (rows0 t)[n]? = some (u, pq, lv, s) ∧ K (.lst ((rdh u).map fun h => .sh h.t))
theorem tkid_at {t : Tm} {m lv s : Nat} {h : Hd} {ps : List Tm} {pq : Option Nat} (e : (rows0 t)[m]? = some (.nd h ps, pq, lv, s)) : (tkid t)[m]? = some (.lst ((kn (m + 1) ps).map fun (k : Nat) => .int (k : Nat))) := by
  have hm : m < t.sz := by have := (List.getElem?_eq_some_iff.mp e).1; rwa [rows0_len] at this
  unfold tkid
  rw [List.getElem?_map, List.getElem?_range hm, Option.map_some, kidsAt_e e]
theorem tend_at {t u : Tm} {m lv s : Nat} {pq : Option Nat} (e : (rows0 t)[m]? = some (u, pq, lv, s)) : (tend t)[m]? = some (.int ((m + u.sz : Nat) : Nat)) := by
  have hm : m < t.sz := by have := (List.getElem?_eq_some_iff.mp e).1; rwa [rows0_len] at this
  unfold tend
  rw [List.getElem?_map, List.getElem?_range hm, Option.map_some, endAt_e e]
theorem cut_heads {t u : Tm} {m lv s : Nat} {pq : Option Nat} (e : (rows0 t)[m]? = some (u, pq, lv, s)) {i j : Int} (hi : i = m) (hj : j = (m + u.sz : Nat)) : cutL (t.heads.map Hd.t) (some i) (some j) = u.heads.map Hd.t := by
  subst hi
  subst hj
  rw [cutL_mid, ← List.map_drop, ← List.map_take, Nat.add_sub_cancel_left, rows_sub e]
end Rd
end TL

set_option maxHeartbeats 4000000
/-! _law_reduct -/
namespace TL
open PySem PySem.Spec PyProof.Rows L2
namespace Rd
theorem at_cast {α : Type} (l : List α) {i : Int} {k : Nat} (h : i = k) : atI l i = l[k]? := by subst h; exact atI_nat l k
theorem at_hd {t u : Tm} {m lv s : Nat} {pq : Option Nat} (e : (rows0 t)[m]? = some (u, pq, lv, s)) {i : Int} (h : i = m) : atI (t.heads.map Hd.t) i = some u.hd.t := by rw [at_cast _ h, List.getElem?_map, heads_at e]; rfl
theorem at_en {t u : Tm} {m lv s : Nat} {pq : Option Nat} (e : (rows0 t)[m]? = some (u, pq, lv, s)) {i : Int} (h : i = m) : atI (tend t) i = some (.int ((m + u.sz : Nat) : Nat)) := by rw [at_cast _ h, tend_at e]
theorem at_kd {t : Tm} {m lv s : Nat} {h : Hd} {ps : List Tm} {pq : Option Nat} (e : (rows0 t)[m]? = some (.nd h ps, pq, lv, s)) {i : Int} (hi : i = m) : atI (tkid t) i = some (.lst ((kn (m + 1) ps).map fun (k : Nat) => .int (k : Nat))) := by rw [at_cast _ hi, tkid_at e]
theorem wk_of {t u : Tm} {m lv s : Nat} {pq : Option Nat} (e : (rows0 t)[m]? = some (u, pq, lv, s)) : ∃ sc, (wk t 1 0 [])[m]? = some (u, lv, sc) := by
  have e2 := congrArg (fun l => l[m]?) (wk_nk t none 1 0 0 [])
  simp only [List.getElem?_map, show nk t none 1 0 0 = rows0 t from rfl, e, Option.map_some] at e2
  cases q : (wk t 1 0 [])[m]? with
  | none => rw [q] at e2; cases e2
  | some r =>
    rw [q] at e2
    obtain ⟨a, b, c⟩ := r
    simp at e2
    obtain ⟨rfl, rfl⟩ := e2
    exact ⟨c, rfl⟩
theorem wk_num (t : Tm) : ∀ (n i : Nat) (u : Tm) (lv : Nat) (sc : Sc), i ≤ n → (wk t 1 0 [])[i]? = some (u, lv, sc) → ∀ p ∈ sc, p.2 < i
  | 0, i, u, lv, sc, hi, e => by
    obtain ⟨pq, s, e1, e2⟩ := wk0_up e
    rcases e2 with ⟨_, rfl⟩ | ⟨q, h, ps, lvq, scq, _, e3, e4, rfl⟩
    · intro p hp; cases hp
    · omega
  | n + 1, i, u, lv, sc, hi, e => by
    obtain ⟨pq, s, e1, e2⟩ := wk0_up e
    rcases e2 with ⟨_, rfl⟩ | ⟨q, h, ps, lvq, scq, _, e3, e4, rfl⟩
    · intro p hp; cases hp
    · have ih := wk_num t n q _ lvq scq (by omega) e4
      intro p hp
      cases h <;> first
        | (have := ih p hp; omega)
        | (rcases List.mem_cons.mp hp with rfl | hp
           · exact e3
           · have := ih p hp; omega)
theorem look_lt : ∀ {sc : Sc} {n k : Nat} {y : Str}, (∀ p ∈ sc, p.2 < n) → sc.lookup y = some k → k < n
  | [], n, k, y, _, h => by cases h
  | (a, b) :: sc, n, k, y, hs, h => by
    rw [List.lookup_cons] at h
    split at h
    · cases h; exact hs (a, b) (by simp)
    · exact look_lt (fun p hp => hs p (List.mem_cons_of_mem _ hp)) h
@[simp] theorem eqv_ni (j : Int) : PyData.eqv .none (.int j) = false := by unfold PyData.eqv; rfl
theorem oI_eq (o : Option Nat) (k : Nat) : (T.isD (oI o) = true ∧ (oI o).d.depth ≤ 64) ∧ PyData.eqv (oI o).d (.int (k : Nat)) = decide (o = some k) := by
  cases o with
  | none => simp
  | some j =>
    simp
    omega
theorem pl__law_reduct (ts : List T) (K0 : O → Prop) (Z0 : ZX) (h : g__law_reduct ts K0 Z0) : x__law_reduct g__law_closed.pf g__law_binder.pf (endP K0 Z0) (TL.slots 13 ts) := by
  obtain ⟨t, n, ⟨h, ps⟩, pq, lv, s, rfl, ok, hs, e, hk⟩ := h
  have hh : t.heads[n]? = some h := heads_at e
  have hps : ps.length = h.ar := (ok_nd.mp (ok_rows ok e)).1
  have oku := ok_rows ok e
  have hn : n < t.sz := by have := (List.getElem?_eq_some_iff.mp e).1; rwa [rows0_len] at this
  unfold x__law_reduct
  have hkd := tkid_at e
  have hen := tend_at e
  cases h with
  | note f =>
    obtain ⟨a, rfl⟩ := len1 hps
    have ea := rows_dn e (j := 0) rfl
    simp at ea
    have hena := tend_at ea
    have a1 := at_en ea (i := (n : Int) + 1) (by omega)
    simp -implicitDefEqProofs [hdsT, hh, treeT, Hd.w, hkd, kn]
    rw [a1]
    simp -implicitDefEqProofs
    rw [cut_heads ea (by omega) (by omega)]
    simpa [rdh, rdx, root, Function.comp_def] using hk
  | uns =>
    obtain ⟨⟨ha, pa⟩, rfl⟩ := len1 hps
    have ea := rows_dn e (j := 0) rfl
    simp at ea
    have a1 := at_en ea (i := (n : Int) + 1) (by omega)
    have a2 := at_hd ea (i := (n : Int) + 1) (by omega)
    simp -implicitDefEqProofs [hdsT, hh, treeT, Hd.w, hkd, kn]
    rw [a1]
    simp -implicitDefEqProofs
    rw [a2]
    simp -implicitDefEqProofs
    cases hb : ha.isSel with
    | true =>
      obtain rfl : ha = .sel := by cases ha <;> first | rfl | cases hb
      obtain ⟨b, rfl⟩ := len1 (ok_nd.mp (ok_rows ok ea)).1
      have eb := rows_dn ea (j := 0) rfl
      simp at eb
      have hbl := rows_lt eb
      have e1 := cut_heads eb (i := (n : Int) + 1 + 1) (j := (n : Int) + 1 + (1 + (b.sz : Int))) (by omega) (by omega)
      simp -implicitDefEqProofs
      rw [e1]
      simp -implicitDefEqProofs [heads_len]
      exact ⟨by omega, by simpa [rdh, rdx, root, Hd.isSel, Function.comp_def] using hk⟩
    | false =>
      simp -implicitDefEqProofs
      simpa [rdh, rdx, hb] using hk
  | lft =>
    obtain ⟨⟨ha, pa⟩, rfl⟩ := len1 hps
    have ea := rows_dn e (j := 0) rfl
    simp at ea
    have a2 := at_hd ea (i := (n : Int) + 1) (by omega)
    have a3 := at_kd ea (i := (n : Int) + 1) (by omega)
    simp -implicitDefEqProofs [hdsT, hh, treeT, Hd.w, hkd, kn]
    rw [a2]
    simp -implicitDefEqProofs
    cases hb : ha.isPr with
    | true =>
      obtain rfl : ha = .pr := by cases ha <;> first | rfl | cases hb
      obtain ⟨b, c, rfl⟩ := len2 (ok_nd.mp (ok_rows ok ea)).1
      have eb := rows_dn ea (j := 0) rfl
      simp at eb
      have a4 := at_en eb (i := (n : Int) + 1 + 1) (by omega)
      simp -implicitDefEqProofs
      rw [a3]
      simp -implicitDefEqProofs [kn]
      rw [a4]
      simp -implicitDefEqProofs
      rw [cut_heads eb (by omega) (by omega)]
      simpa [rdh, rdx, root, hb, Function.comp_def] using hk
    | false =>
      simp -implicitDefEqProofs
      simpa [rdh, rdx, hb] using hk
  | rgt =>
    obtain ⟨⟨ha, pa⟩, rfl⟩ := len1 hps
    have ea := rows_dn e (j := 0) rfl
    simp at ea
    have a2 := at_hd ea (i := (n : Int) + 1) (by omega)
    have a3 := at_kd ea (i := (n : Int) + 1) (by omega)
    simp -implicitDefEqProofs [hdsT, hh, treeT, Hd.w, hkd, kn]
    rw [a2]
    simp -implicitDefEqProofs
    cases hb : ha.isPr with
    | true =>
      obtain rfl : ha = .pr := by cases ha <;> first | rfl | cases hb
      obtain ⟨b, c, rfl⟩ := len2 (ok_nd.mp (ok_rows ok ea)).1
      have eb := rows_dn ea (j := 1) rfl
      simp at eb
      have a4 := at_en eb (i := (n : Int) + 1 + 1 + (b.sz : Int)) (by omega)
      simp -implicitDefEqProofs
      rw [a3]
      simp -implicitDefEqProofs [kn]
      rw [a4]
      simp -implicitDefEqProofs
      rw [cut_heads eb (by omega) (by omega)]
      simpa [rdh, rdx, root, hb, Function.comp_def] using hk
    | false =>
      simp -implicitDefEqProofs
      simpa [rdh, rdx, hb] using hk
  | app =>
    obtain ⟨⟨ha, pa⟩, c, rfl⟩ := len2 hps
    have ea := rows_dn e (j := 0) rfl
    have ec := rows_dn e (j := 1) rfl
    simp at ea ec
    have okc := ok_rows ok ec
    have a1 := at_en ea (i := (n : Int) + 1) (by omega)
    have a2 := at_hd ea (i := (n : Int) + 1) (by omega)
    have hcl := rows_lt ec
    simp -implicitDefEqProofs [hdsT, hh, treeT, Hd.w, hkd, kn, hen]
    rw [a2]
    simp -implicitDefEqProofs
    cases hb : ha.isFn with
    | false =>
      simp -implicitDefEqProofs
      simpa [rdh, rdx, hb] using hk
    | true =>
      obtain ⟨x, rfl⟩ : ∃ x, ha = .fn x := by cases ha <;> first | exact ⟨_, rfl⟩ | cases hb
      obtain ⟨b, rfl⟩ := len1 (ok_nd.mp (ok_rows ok ea)).1
      have eb := rows_dn ea (j := 0) rfl
      simp at eb
      have okb := ok_rows ok eb
      have hbl := rows_lt eb
      simp at ec hcl
      simp -implicitDefEqProofs
      rw [cut_heads ec (by omega) (by omega)]
      refine ⟨c, rfl, okc, by omega, ?_⟩
      simp -implicitDefEqProofs
      cases hf : ff c with
      | some z =>
        simp -implicitDefEqProofs
        simpa [rdh, rdx, hf] using hk
      | none =>
        simp -implicitDefEqProofs
        refine foI ?_
        simp -implicitDefEqProofs
        rw [a1]
        have ecnt : ((n : Int) + 1 + (1 + (b.sz : Int)) - ((n : Int) + 1 + 1)).toNat = b.sz := by omega
        simp -implicitDefEqProofs
        obtain ⟨sca, hwa⟩ := wk_of ea
        obtain ⟨scb0, hwb⟩ := wk_of eb
        obtain ⟨scb, hscb, hwb⟩ : ∃ scb, scb = (x, n + 1) :: sca ∧ (wk t 1 0 [])[n + 1 + 1]? = some (b, lv + 1 + 1, scb) := by
          obtain ⟨pq2, s2, e5, e6⟩ := wk0_up hwb
          rw [eb] at e5
          simp at e5
          obtain ⟨rfl, rfl⟩ := e5
          rcases e6 with ⟨z, _⟩ | ⟨q, h, ps, lvq, scq, z, e7, e8, rfl⟩
          · cases z
          · cases z
            rw [hwa] at e8
            simp at e8
            obtain ⟨⟨rfl, rfl⟩, rfl, rfl⟩ := e8
            exact ⟨_, rfl, hwb⟩
        have hws := wk_sub t 1 0 [] _ b _ scb hwb
        rw [Nat.zero_add] at hws
        have hnum := wk_num t (n + 1) _ _ _ _ (Nat.le_refl _) hwa
        have hput := put_sub x c (n + 1) b (lv + 1 + 1) (n + 1 + 1) scb okb (by omega) (fun y hy => by
          subst hscb
          rw [List.lookup_cons] at hy
          split at hy
          · rename_i hxy; simpa using hxy
          · have := look_lt hnum hy; omega)
        have hlx : scb.lookup x = some (n + 1) := by subst hscb; simp
        rw [if_pos hlx] at hput
        generalize hR : wk b (lv + 1 + 1) (n + 1 + 1) scb = Rw at hput hws
        have hRl : Rw.length = b.sz := by rw [← hR, wk_len]
        have hRat : ∀ i, i < b.sz → (wk t 1 0 [])[n + 1 + 1 + i]? = Rw[i]? := fun i hi => by
          rw [← hws, List.getElem?_take, if_pos hi, List.getElem?_drop]
        rw [ecnt]
        refine ⟨⟨by omega, by omega, by omega, by omega⟩, ?_⟩
        refine forI (fun i ρ => ∃ x12, ρ = [some (O.sh (T.lst (List.map Hd.t t.heads))), some (O.sh (T.tup [T.lst (tpar t), T.lst (tlev t), T.lst (tkid t), T.lst (tend t)])), some (O.sh (T.int (n : Nat))),
          some (O.sh (T.str "call")), some (O.sh (T.lst (tpar t))), some (O.sh (T.lst (tlev t))), some (O.sh (T.lst (tkid t))), some (O.sh (T.lst (tend t))), some (O.sh (T.int ((n : Int) + 1))), none,
          some (O.sh (T.lst (List.map Hd.t c.heads))), some (O.lst (((Rw.take i).flatMap (putK (n + 1) c)).map fun h => .sh h.t)), x12]) ⟨none, by simp⟩ ?_ ?_
        · rintro i u ρ hi ⟨x12, rfl⟩
          obtain ⟨rfl, hilt⟩ := range_at hi
          have hr := hRat i hilt
          obtain ⟨⟨⟨h', ps'⟩, lv', sc'⟩, er⟩ : ∃ r, Rw[i]? = some r := ⟨_, List.getElem?_eq_getElem (by omega)⟩
          rw [er] at hr
          obtain ⟨pq', s', er2⟩ := nk_at hr
          have a5 := at_hd er2 (i := (n : Int) + 1 + 1 + (i : Int)) (by omega)
          have hlen := put_len (n + 1) c (Rw.take i)
          rw [List.length_take] at hlen
          have hmul : min i Rw.length * (c.sz + 1) ≤ 1000 * 1000 := Nat.mul_le_mul (by omega) (by omega)
          have htk : (Rw.take (i + 1)).flatMap (putK (n + 1) c) = (Rw.take i).flatMap (putK (n + 1) c) ++ putK (n + 1) c (Tm.nd h' ps', lv', sc') := by rw [take_snoc er, List.flatMap_append]; simp
          rw [htk]
          generalize (Rw.take i).flatMap (putK (n + 1) c) = out at hlen
          simp -implicitDefEqProofs
          rw [a5]
          simp -implicitDefEqProofs
          by_cases hw : h'.w = "name"
          · obtain ⟨y, rfl⟩ := w_nam.mp hw
            simp -implicitDefEqProofs [Hd.w]
            refine ⟨t, n + 1 + 1 + i, lv', y, ps', sc', by simp [hdsT], ok, by omega, hr, ?_⟩
            obtain ⟨⟨o1, o2⟩, o3⟩ := oI_eq (sc'.lookup y) (n + 1)
            simp at o3
            simp -implicitDefEqProofs [o1, o2, o3]
            by_cases hit : sc'.lookup y = some (n + 1)
            · simp -implicitDefEqProofs [hit, heads_len]
              refine ⟨by omega, ?_⟩
              simp [putK, hitK, hit, Function.comp_def]
            · simp -implicitDefEqProofs [hit]
              rw [a5]
              simp -implicitDefEqProofs
              refine ⟨by omega, ?_⟩
              simp [putK, hitK, hit]
          · simp -implicitDefEqProofs [hw]
            rw [a5]
            simp -implicitDefEqProofs
            refine ⟨by omega, ?_⟩
            have : hitK (n + 1) (Tm.nd h' ps', lv', sc') = false := by
              unfold hitK
              cases h' <;> first | rfl | exact absurd rfl hw
            simp [putK, this]
        · rintro ρ ⟨x12, rfl⟩
          simp only [range_len]
          rw [List.take_of_length_le (by omega), hput]
          simp -implicitDefEqProofs
          simpa [rdh, rdx, root, hb, hf] using hk
  | _ =>
    simp -implicitDefEqProofs [hdsT, hh, treeT, Hd.w]
    simpa [rdh, rdx] using hk
end Rd
end TL

set_option maxHeartbeats 4000000
/-! a term with another term at a node; _law_due -/
namespace TL
open PySem PySem.Spec PyProof.Rows L2
namespace Rd
mutual
def lvl : Tm → Nat → List Nat
  | .nd _ ps, lv => lv :: lvls ps (lv + 1)
def lvls : List Tm → Nat → List Nat
  | [], _ => []
  | p :: ps, lv => lvl p lv ++ lvls ps lv
end
mutual
theorem lvl_len : ∀ (t : Tm) (lv : Nat), (lvl t lv).length = t.sz
  | .nd h ps, lv => by rw [lvl, List.length_cons, lvls_len ps, sz_nd]; omega
theorem lvls_len : ∀ (ps : List Tm) (lv : Nat), (lvls ps lv).length = Tms.sz ps
  | [], lv => by rw [lvls]; rfl
  | p :: ps, lv => by rw [lvls, List.length_append, lvl_len p, lvls_len ps, sz_cons]
end
mutual
theorem lvl_wk : ∀ (t : Tm) (lv n : Nat) (sc : Sc), (wk t lv n sc).map (·.2.1) = lvl t lv
  | .nd h ps, lv, n, sc => by rw [wk, lvl, List.map_cons, lvls_wk ps]
theorem lvls_wk : ∀ (ps : List Tm) (lv n : Nat) (sc : Sc), (wks ps lv n sc).map (·.2.1) = lvls ps lv
  | [], lv, n, sc => by rw [wks, lvls]; rfl
  | p :: ps, lv, n, sc => by rw [wks, lvls, List.map_append, lvl_wk p, lvls_wk ps]
end
mutual
theorem rep_all (o : Tm) : ∀ (t : Tm) (par : Option Nat) (lv sp n i : Nat) (u : Tm) (pq : Option Nat) (d s : Nat), (nk t par lv sp n)[i]? = some (u, pq, d, s) →
    (rep t i o).heads = t.heads.take i ++ o.heads ++ t.heads.drop (i + u.sz) ∧ lvl (rep t i o) lv = (lvl t lv).take i ++ lvl o d ++ (lvl t lv).drop (i + u.sz)
  | .nd h ps, par, lv, sp, n, 0, u, pq, d, s, e => by
    rw [nk] at e
    simp at e
    obtain ⟨rfl, rfl, rfl, rfl⟩ := e
    rw [rep, Nat.zero_add]
    refine ⟨?_, ?_⟩
    · rw [List.drop_of_length_le (by rw [heads_len]; omega)]; simp
    · rw [List.drop_of_length_le (by rw [lvl_len]; omega)]; simp
  | .nd h ps, par, lv, sp, n, i + 1, u, pq, d, s, e => by
    rw [nk] at e
    simp only [List.getElem?_cons_succ] at e
    obtain ⟨h1, h2⟩ := reps_all o ps n (lv + 1) h.pre.length (n + 1) i u pq d s e
    rw [rep, heads_nd, heads_nd, h1, lvl, lvl, h2, show i + 1 + u.sz = (i + u.sz) + 1 by omega]
    exact ⟨rfl, rfl⟩
theorem reps_all (o : Tm) : ∀ (ps : List Tm) (par lv sp n i : Nat) (u : Tm) (pq : Option Nat) (d s : Nat), (nks ps par lv sp n)[i]? = some (u, pq, d, s) →
    Tms.heads (reps ps i o) = (Tms.heads ps).take i ++ o.heads ++ (Tms.heads ps).drop (i + u.sz) ∧ lvls (reps ps i o) lv = (lvls ps lv).take i ++ lvl o d ++ (lvls ps lv).drop (i + u.sz)
  | [], par, lv, sp, n, i, u, pq, d, s, e => by rw [nks] at e; simp at e
  | p :: ps, par, lv, sp, n, i, u, pq, d, s, e => by
    rw [nks] at e
    have l1 := heads_len p
    have l2 := lvl_len p lv
    by_cases hi : i < p.sz
    · rw [List.getElem?_append_left (by rw [nk_len]; exact hi)] at e
      obtain ⟨h1, h2⟩ := rep_all o p (some par) lv sp n i u pq d s e
      have h3 := (nk_up p (some par) lv sp n i u pq d s e).1
      rw [reps, if_pos hi, heads_cons, heads_cons, lvls, lvls, h1, h2, List.take_append_of_le_length (by omega), List.take_append_of_le_length (by omega), List.drop_append_of_le_length (by omega), List.drop_append_of_le_length (by omega)]
      simp
    · rw [List.getElem?_append_right (by rw [nk_len]; omega), nk_len] at e
      obtain ⟨h1, h2⟩ := reps_all o ps par lv (sp + 1) (n + p.sz) (i - p.sz) u pq d s e
      rw [reps, if_neg hi, heads_cons, heads_cons, lvls, lvls, h1, h2, List.take_append, List.take_append, List.take_of_length_le (l := p.heads) (by omega), List.take_of_length_le (l := lvl p lv) (by omega), List.drop_append, List.drop_append, List.drop_of_length_le (l := p.heads) (by omega), List.drop_of_length_le (l := lvl p lv) (by omega), l1, l2, show i + u.sz - p.sz = i - p.sz + u.sz by omega]
      simp
end
theorem rep_heads {t u : Tm} {i lv s : Nat} {pq : Option Nat} (o : Tm) (e : (rows0 t)[i]? = some (u, pq, lv, s)) : (rep t i o).heads = t.heads.take i ++ o.heads ++ t.heads.drop (i + u.sz) := (rep_all o t none 1 0 0 i u pq lv s e).1
theorem rep_sz {t u : Tm} {i lv s : Nat} {pq : Option Nat} (o : Tm) (e : (rows0 t)[i]? = some (u, pq, lv, s)) : (rep t i o).sz = t.sz - u.sz + o.sz := by
  have h1 := congrArg List.length (rep_heads o e)
  have h2 := rows_lt e
  simp only [List.length_append, List.length_take, List.length_drop, heads_len] at h1
  omega
theorem mxl_app (a b : List Nat) : mxl (a ++ b) = max (mxl a) (mxl b) := by
  have h : ∀ (l : List Nat) (d : Nat), l.foldl max d = max d (l.foldl max 0) := fun l => by
    induction l with
    | nil => intro d; simp
    | cons x l ih => intro d; rw [List.foldl_cons, List.foldl_cons, ih (max d x), ih (max 0 x)]; omega
  unfold mxl
  rw [List.foldl_append, h b]
theorem mxl_lvl (t : Tm) {lv : Nat} (h : 1 ≤ lv) : mxl (lvl t lv) = lv - 1 + t.dep := by
  have h1 := wk_dep t lv 0 [] 0 h
  have h2 := hi_dep (lv := lv) t
  unfold mxl
  rw [← lvl_wk t lv 0 [], List.foldl_map, h1, h2]
  omega
theorem rep_dep {t u : Tm} {i lv s : Nat} {pq : Option Nat} (o : Tm) (e : (rows0 t)[i]? = some (u, pq, lv, s)) (hl : 1 ≤ lv) : (rep t i o).dep = max (mx (outs t i u.sz)) (lv - 1 + o.dep) := by
  have h1 := (rep_all o t none 1 0 0 i u pq lv s e).2
  have h2 := mxl_lvl (rep t i o) (Nat.le_refl 1)
  rw [h1, mxl_app, mxl_app, mxl_lvl o hl] at h2
  rw [mx_mxl]
  unfold outs
  rw [List.map_append, List.map_take, List.map_drop, lvl_wk, mxl_app]
  omega
mutual
theorem rep_ok {o : Tm} (ho : o.ok) : ∀ (t : Tm) (i : Nat), t.ok → (rep t i o).ok
  | .nd h ps, 0, ht => by rw [rep]; exact ho
  | .nd h ps, i + 1, ht => by
    obtain ⟨hl, hg, hp⟩ := ok_nd.mp ht
    obtain ⟨h1, h2⟩ := reps_ok ho ps i hp
    rw [rep]
    exact ok_nd.mpr ⟨by omega, hg, h1⟩
theorem reps_ok {o : Tm} (ho : o.ok) : ∀ (ps : List Tm) (i : Nat), Tms.ok ps → Tms.ok (reps ps i o) ∧ (reps ps i o).length = ps.length
  | [], i, h => by rw [reps]; exact ⟨trivial, rfl⟩
  | p :: ps, i, h => by
    rw [reps]
    split
    · exact ⟨⟨rep_ok ho p i h.1, h.2⟩, rfl⟩
    · obtain ⟨h1, h2⟩ := reps_ok ho ps (i - p.sz) h.2
      exact ⟨⟨h.1, h1⟩, by simp [h2]⟩
end
mutual
theorem sub_sz (x : Str) (c : Tm) : ∀ t : Tm, (sub x c t).sz ≤ t.sz * (c.sz + 1)
  | .nd h ps => by
    have h1 := subs_sz x c ps
    have go : (Tm.nd h (subs x c ps)).sz ≤ (Tm.nd h ps).sz * (c.sz + 1) := by
      rw [sz_nd, sz_nd, Nat.add_mul]
      omega
    have same : (Tm.nd h ps).sz ≤ (Tm.nd h ps).sz * (c.sz + 1) := Nat.le_mul_of_pos_right _ (by omega)
    unfold sub
    split
    · split
      · rw [sz_nd, Nat.add_mul]; omega
      · exact same
    · split
      · exact same
      · exact go
    · exact go
theorem subs_sz (x : Str) (c : Tm) : ∀ ps : List Tm, Tms.sz (subs x c ps) ≤ Tms.sz ps * (c.sz + 1)
  | [] => by rw [subs]; simp
  | p :: ps => by
    have h1 := sub_sz x c p
    have h2 := subs_sz x c ps
    rw [subs, sz_cons, sz_cons, Nat.add_mul]
    omega
end
theorem root_sz {u : Tm} (hr : Rdx u) : (root u).sz ≤ u.sz * (u.sz + 1) := by
  have big : ∀ v : Tm, v.sz ≤ u.sz → v.sz ≤ u.sz * (u.sz + 1) := fun v h => Nat.le_trans h (Nat.le_mul_of_pos_right _ (by omega))
  cases hr with
  | note f a => exact big _ (by simp [root])
  | rgt a b => exact big _ (by simp [root]; omega)
  | lft a b => exact big _ (by simp [root]; omega)
  | uns a => exact big _ (by simp [root]; omega)
  | app x b c hc =>
    have h1 := sub_sz x c b
    have h2 : b.sz * (c.sz + 1) ≤ (Tm.nd .app [.nd (.fn x) [b], c]).sz * ((Tm.nd .app [.nd (.fn x) [b], c]).sz + 1) := Nat.mul_le_mul (by simp; omega) (by simp; omega)
    exact Nat.le_trans h1 h2
theorem nmx_any (k : Nat) : ∀ (rows : List NR), (rows.any fun r => decide (k < r.2.2.1)) = decide (k < nmx rows) := by
  intro rows
  have h : ∀ (l : List NR) (d : Nat), (decide (k < l.foldl (fun d r => max d r.2.2.1) d)) = (decide (k < d) || l.any fun r => decide (k < r.2.2.1)) := fun l => by
    induction l with
    | nil => intro d; rw [List.foldl_nil, List.any_nil, Bool.or_false]
    | cons r l ih =>
      intro d
      rw [List.foldl_cons, ih, List.any_cons, ← Bool.or_assoc]
      congr 1
      by_cases h1 : k < d <;> by_cases h2 : k < r.2.2.1 <;> simp [h1, h2] <;> omega
  unfold nmx
  rw [h]
  simp
/-- what is due -/
def dueL (t : Tm) (n : Nat) (u : Tm) : List T :=
  if rdx u = true then
    if 40 < (rep t n (root u)).dep then [.str "TooDeep", .int 40]
    else if 300 < (rep t n (root u)).sz then [.str "TooBig", .int 300]
    else [.str "answer", (rep t n (root u)).T]
  else [.str "NotThere", .int (n : Nat)]
def g__law_due : GT := fun ts K _ => ∃ (t : Tm) (n : Nat) (u : Tm) (pq : Option Nat) (lv s : Nat), ts = [hdsT t, .lst (tend t), .int (n : Nat), .lst ((rdh u).map Hd.t)] ∧ t.ok ∧ t.sz ≤ 200 ∧ (rows0 t)[n]? = some (u, pq, lv, s) ∧ K (.lst ((dueL t n u).map .sh))
def lvF : T → O
  | .int i => .sh (.bl (decide (40 < i)))
  | _ => .sh .non
theorem pl__law_due (ts : List T) (K0 : O → Prop) (Z0 : ZX) (h : g__law_due ts K0 Z0) : x__law_due g__law_tree.pf g__law_term.pf (endP K0 Z0) (TL.slots 6 ts) := by
  obtain ⟨t, n, u, pq, lv, s, rfl, ok, hs, e, hk⟩ := h
  have oku := ok_rows ok e
  have hen := tend_at e
  have hlt := rows_lt e
  unfold x__law_due
  cases hx : rdx u with
  | false =>
    simp -implicitDefEqProofs [rdh, hx]
    simpa [dueL, hx] using hk
  | true =>
    have hR := rdx_iff oku hx
    have hrt := root_ok oku hR
    have hrs := root_sz hR
    have hr0 := sz_pos (root u)
    have hne : (root u).heads ≠ [] := fun z => by have := heads_len (root u); rw [z] at this; simp at this; omega
    have hmul : u.sz * (u.sz + 1) ≤ 200 * 201 := Nat.mul_le_mul (by omega) (by omega)
    have hrep := rep_heads (root u) e
    have hrsz := rep_sz (root u) e
    have hrok := rep_ok hrt t n ok
    have c1 : cutL (t.heads.map Hd.t) none (some (n : Int)) = (t.heads.take n).map Hd.t := by rw [cutL_to, List.map_take]
    have c2 : cutL (t.heads.map Hd.t) (some ((n : Int) + (u.sz : Int))) none = (t.heads.drop (n + u.sz)).map Hd.t := by rw [show (n : Int) + (u.sz : Int) = ((n + u.sz : Nat) : Int) by omega, cutL_from, List.map_drop]
    have enew : (t.heads.take n).map Hd.t ++ ((root u).heads.map Hd.t ++ (t.heads.drop (n + u.sz)).map Hd.t) = (rep t n (root u)).heads.map Hd.t := by rw [hrep]; simp
    simp -implicitDefEqProofs [rdh, hx, hdsT, hne, hen]
    have e4 : List.map O.sh ((t.heads.take n).map Hd.t) ++ (List.map (O.sh ∘ fun a => a.t) (root u).heads ++ List.map O.sh ((t.heads.drop (n + u.sz)).map Hd.t)) = List.map O.sh ((rep t n (root u)).heads.map Hd.t) := by
      rw [← enew]
      simp [Function.comp_def]
    rw [c1, c2, e4]
    refine ⟨by simp [heads_len]; omega, by simp [heads_len]; omega, ?_⟩
    generalize hr : rep t n (root u) = r at *
    have hrl := heads_len r
    refine lcI ?_
    simp -implicitDefEqProofs
    refine ⟨r, by simp [hdsT], hrok, by omega, ?_⟩
    simp -implicitDefEqProofs [treeT]
    refine compMap (f := lvF) rfl (by simp [tlev]; omega) ?_ fun v hv C E hE => ?_
    · have e5 : (tlev r).map lvF = ((rows0 r).map fun q => O.sh (.bl (decide (40 < q.2.2.1)))) := by
        unfold tlev
        rw [List.map_map]
        apply List.map_congr_left
        intro q hq
        simp [lvF]
        omega
      rw [e5]
      have e6 := bls_map (rows0 r) fun q => decide (40 < q.2.2.1)
      have e7 := nmx_any 40 (rows0 r)
      rw [nmx_dep] at e7
      simp -implicitDefEqProofs
      rw [e6]
      simp -implicitDefEqProofs
      rw [e7]
      by_cases q1 : 40 < r.dep
      · simp -implicitDefEqProofs [q1]
        simpa [dueL, hx, hr, q1] using hk
      · simp -implicitDefEqProofs [q1, heads_len]
        by_cases q2 : 300 < r.sz
        · have q3 : (300 : Int) < (r.sz : Int) := by omega
          simp -implicitDefEqProofs [q2, q3]
          simpa [dueL, hx, hr, q1, q2] using hk
        · have q3 : ¬ (300 : Int) < (r.sz : Int) := by omega
          simp -implicitDefEqProofs [q2, q3]
          refine ⟨r, by simp [hdsT], hrok, by omega, ?_⟩
          simp -implicitDefEqProofs
          simpa [dueL, hx, hr, q1, q2] using hk
    · unfold tlev at hv
      obtain ⟨q, hq, rfl⟩ := List.mem_map.mp hv
      simp -implicitDefEqProofs
      exact hE _ rfl
end Rd
end TL

set_option maxHeartbeats 4000000
/-! _law_same, of a value and itself -/
namespace TL
open PySem PySem.Spec PyProof.Rows L2
def isiE (cs : List Ty7) (t : T) [c : Kb (Bool → Prop)] : Prop := t.tn.isSome = true ∧ c.k (cs.any fun c => t.isTy c)
@[simp ↓] theorem w_xIsi (cs : List Ty7) (x : XE) (ρ : R) (K : O → R → Prop) (Z : ZC) : xIsi cs x ρ K Z = x ρ (fun o ρ' => isiE cs o.t (c := ⟨fun b => K (.sh (.bl b)) ρ'⟩)) Z := rfl
@[simp] theorem isiE_l (cs : List Ty7) (xs : List T) (f : Bool → Prop) : isiE cs (.lst xs) (c := ⟨f⟩) = f (cs.any fun c => (T.lst xs).isTy c) := by unfold isiE; simp [T.tn]
@[simp] theorem isiE_t (cs : List Ty7) (xs : List T) (f : Bool → Prop) : isiE cs (.tup xs) (c := ⟨f⟩) = f (cs.any fun c => (T.tup xs).isTy c) := by unfold isiE; simp [T.tn]
@[simp] theorem isiE_s (cs : List Ty7) (x : Str) (f : Bool → Prop) : isiE cs (.str x) (c := ⟨f⟩) = f (cs.any fun c => (T.str x).isTy c) := by unfold isiE; simp [T.tn]
@[simp] theorem isiE_i (cs : List Ty7) (x : Int) (f : Bool → Prop) : isiE cs (.int x) (c := ⟨f⟩) = f (cs.any fun c => (T.int x).isTy c) := by unfold isiE; simp [T.tn]
@[simp] theorem isiE_b (cs : List Ty7) (x : Bool) (f : Bool → Prop) : isiE cs (.bl x) (c := ⟨f⟩) = f (cs.any fun c => (T.bl x).isTy c) := by unfold isiE; simp [T.tn]
@[simp] theorem eqv_bb (b c : Bool) : PyData.eqv (.bool b) (.bool c) = decide (b = c) := by cases b <;> cases c <;> (unfold PyData.eqv; rfl)
namespace Rd
theorem pls_iff : ∀ {xs : List T}, T.pls xs = true ↔ ∀ x ∈ xs, x.pl = true
  | [] => by simp
  | x :: xs => by simp [pls_iff (xs := xs)]
theorem pls_app (xs ys : List T) : T.pls (xs ++ ys) = (T.pls xs && T.pls ys) := by
  induction xs with
  | nil => simp
  | cons x xs ih => simp [ih, Bool.and_assoc]
theorem nns_len : ∀ xs : List T, xs.length ≤ T.nns xs
  | [] => by simp
  | x :: xs => by
    have := nns_len xs
    have : 1 ≤ x.nn := by cases x <;> simp [T.nn]
    simp
    omega
def g__law_same : GT := fun ts K _ => ∃ a : T, ts = [a, a] ∧ a.pl = true ∧ a.nn < 300000 ∧ K (.sh (.bl true))
def dbl (x : T) : O := .sh (.tup [x, x])
theorem pl__law_same (ts : List T) (K0 : O → Prop) (Z0 : ZX) (h : g__law_same ts K0 Z0) : x__law_same (endP K0 Z0) (TL.slots 7 ts) := by
  obtain ⟨a, rfl, hp, hn, hk⟩ := h
  unfold x__law_same
  simp -implicitDefEqProofs
  refine foI ?_
  simp -implicitDefEqProofs
  refine forI (fun i ρ => ∃ (st : List T) (x3 x4 x5 x6 : Option O), ρ = [some (.sh a), some (.sh a), some (.lst (st.map dbl)), x3, x4, x5, x6] ∧ T.pls st = true ∧ T.nns st + i ≤ a.nn) ⟨[a], none, none, none, none, by simp [dbl], by simpa using hp, by simp⟩ ?_ ?_
  · rintro i u ρ hi ⟨st, x3, x4, x5, x6, rfl, hst, hsn⟩
    obtain ⟨rfl, hilt⟩ := range_at hi
    simp -implicitDefEqProofs
    by_cases e : st = []
    · subst e
      simp -implicitDefEqProofs
      exact hk
    · obtain ⟨st', x, rfl⟩ : ∃ st' x, st = st' ++ [x] := ⟨st.dropLast, st.getLast e, (List.dropLast_concat_getLast e).symm⟩
      rw [pls_app] at hst
      simp at hst hsn
      obtain ⟨hst1, hst2⟩ := hst
      have hstl := nns_len st'
      have hx1 : 1 ≤ x.nn := by cases x <;> simp [T.nn]
      cases x with
      | non =>
        simp -implicitDefEqProofs [dbl, T.isTy]
        exact ⟨st', rfl, hst1, by simp at hsn; omega⟩
      | bl b =>
        simp -implicitDefEqProofs [dbl, T.isTy]
        exact ⟨st', rfl, hst1, by simp at hsn; omega⟩
      | int j =>
        simp -implicitDefEqProofs [dbl, T.isTy]
        exact ⟨st', rfl, hst1, by simp at hsn; omega⟩
      | str s =>
        have hs2 : PyData.strOk s = true := by simpa using hst2
        simp -implicitDefEqProofs [dbl, T.isTy, hs2]
        exact ⟨st', rfl, hst1, by simp at hsn; omega⟩
      | tup xs =>
        have hxs : T.pls xs = true := by simpa using hst2
        have hxl := nns_len xs
        simp at hsn
        simp -implicitDefEqProofs [dbl, T.isTy]
        refine foI ?_
        simp -implicitDefEqProofs
        refine ⟨by omega, ?_⟩
        refine forI (fun j ρ => ∃ x6, ρ = [some (.sh a), some (.sh a), some (.lst ((st' ++ xs.take j).map dbl)), some (.sh (.int (i : Nat))), some (.sh (.tup xs)), some (.sh (.tup xs)), x6]) ⟨_, by simp [dbl]; rfl⟩ ?_ ?_
        · rintro j u ρ hj ⟨x6, rfl⟩
          obtain ⟨rfl, hjlt⟩ := range_at hj
          have hjx : xs[j]? = some xs[j] := List.getElem?_eq_getElem hjlt
          generalize xs[j] = y at hjx
          simp -implicitDefEqProofs [hjx]
          refine ⟨by omega, ?_⟩
          rw [List.take_add_one, List.getElem?_map, hjx]
          simp [dbl]
        · rintro ρ ⟨x6, rfl⟩
          simp -implicitDefEqProofs
          refine ⟨st' ++ xs, by simp, by rw [pls_app, hst1, hxs]; rfl, by rw [nns_app]; omega⟩
      | lst xs =>
        have hxs : T.pls xs = true := by simpa using hst2
        have hxl := nns_len xs
        simp at hsn
        simp -implicitDefEqProofs [dbl, T.isTy]
        refine foI ?_
        simp -implicitDefEqProofs
        refine ⟨by omega, ?_⟩
        refine forI (fun j ρ => ∃ x6, ρ = [some (.sh a), some (.sh a), some (.lst ((st' ++ xs.take j).map dbl)), some (.sh (.int (i : Nat))), some (.sh (.lst xs)), some (.sh (.lst xs)), x6]) ⟨_, by simp [dbl]; rfl⟩ ?_ ?_
        · rintro j u ρ hj ⟨x6, rfl⟩
          obtain ⟨rfl, hjlt⟩ := range_at hj
          have hjx : xs[j]? = some xs[j] := List.getElem?_eq_getElem hjlt
          generalize xs[j] = y at hjx
          simp -implicitDefEqProofs [hjx]
          refine ⟨by omega, ?_⟩
          rw [List.take_add_one, List.getElem?_map, hjx]
          simp [dbl]
        · rintro ρ ⟨x6, rfl⟩
          simp -implicitDefEqProofs
          refine ⟨st' ++ xs, by simp, by rw [pls_app, hst1, hxs]; rfl, by rw [nns_app]; omega⟩
      | _ => simp [T.pl] at hst2
  · rintro ρ ⟨st, x3, x4, x5, x6, rfl, hst, hsn⟩
    simp at hsn
    omega
end Rd
end TL

set_option maxHeartbeats 4000000
/-! _law_told -/
namespace TL
open PySem PySem.Spec PyProof.Rows L2
def exnE (a d C : Addr) (t : T) [c : Kb (List Str → List T → Prop)] : Prop := match t with
  | .exn a' d' C' fs ts => a' = a ∧ d' = d ∧ C' = C ∧ c.k fs ts
  | _ => False
@[simp] theorem exnE_e (a d C : Addr) (fs : List Str) (ts : List T) (f : List Str → List T → Prop) : exnE a d C (.exn a d C fs ts) (c := ⟨f⟩) = f fs ts := by simp [exnE]
@[simp ↓] theorem w_xIsX (a d C : Addr) (tst : Option Bool) (x : XE) (ρ : R) (K : O → R → Prop) (Z : ZC) : xIsX a d C tst x ρ K Z = x ρ (fun o ρ1 => exnE a d C o.t (c := ⟨fun fs ts => optE tst (c := ⟨fun b => K (.sh (.bl b)) ρ1⟩)⟩)) Z := by
  unfold xIsX exnE optE
  congr 1
  funext o ρ1
  cases o.t <;> first
    | rfl
    | (cases tst <;> rfl)
@[simp ↓] theorem w_xFld (a d C : Addr) (f : Str) (x : XE) (ρ : R) (K : O → R → Prop) (Z : ZC) : xFld a d C f x ρ K Z = x ρ (fun o ρ1 => exnE a d C o.t (c := ⟨fun fs ts => optE (lookT fs ts f) (c := ⟨fun t => K (.sh t) ρ1⟩)⟩)) Z := by
  unfold xFld exnE optE
  congr 1
  funext o ρ1
  cases o.t <;> first
    | rfl
    | (rename_i a' d' C' fs ts
       dsimp only
       cases lookT fs ts f <;> rfl)
namespace Rd
def told_suite (kit : Addr → Str → Option Bool) (kitV : Addr → Option Bool) (a d C : Addr) : XS := xSeq (xAsg (xLst (xCons (xIsX a d C (kit C "BadText") (xName 2)) (xCons (xIsX a d C (kit C "UnknownName") (xName 2)) (xCons (xIsX a d C (kit C "Twice") (xName 2)) (xCons (xIsX a d C (kit C "Circle") (xName 2)) (xNil)))))) (gN 3)) (xSeq (xAsg (x2 addT (xName 3) (xLst (xCons (xIsX a d C (kit C "BadRow") (xName 2)) (xCons (xIsX a d C (kit C "NotThere") (xName 2)) (xCons (xIsX a d C (kit C "TooDeep") (xName 2)) (xCons (xIsX a d C (kit C "TooBig") (xName 2)) (xNil))))))) (gN 3)) (xSeq (xAsg (x2 addT (xName 3) (xLst (xCons (xIsX a d C (kit C "NoMeaning") (xName 2)) (xCons (xIsX a d C (kit C "NoSolution") (xName 2)) (xCons (xIsX a d C (kit C "Rough") (xName 2)) (xNil)))))) (gN 3)) (xSeq (xAsg (x2 addT (xName 3) (xLst (xCons (xIsX a d C (kit C "InUse") (xName 2)) (xCons (xIsX a d C (kit C "TooWide") (xName 2)) (xCons (xIsX a d C (kit C "Stuck") (xName 2)) (xCons (xIsX a d C (kit C "TooLong") (xName 2)) (xNil))))))) (gN 3)) (xSeq (xAsg (xLc (xRng1 (xCons (xC (.int 15)) (xNil))) (gN 5) (xAnd (xTru (x2 ixT (xName 3) (xName 5))) (xTru (xIsX a d C (kitV C) (xName 2)))) (xName 5) [5]) (gN 4)) (xSeq (xIfS (x2T eqT (xName 4) (xLst (xCons (xC (.int 5)) (xNil)))) (xRet (xLst (xCons (xC (.str "NotThere")) (xCons (xFld a d C "number" (xName 2)) (xNil))))) (xNext)) (xIfS (x2T inT (xName 4) (xLst (xCons (xLst (xCons (xC (.int 6)) (xNil))) (xCons (xLst (xCons (xC (.int 7)) (xNil))) (xNil))))) (xRet (xLst (xCons (x2 ixT (xLst (xCons (xC (.str "TooDeep")) (xCons (xC (.str "TooBig")) (xNil)))) (x2 subT (x2 ixT (xName 4) (xC (.int 0))) (xC (.int 6)))) (xCons (xFld a d C "limit" (xName 2)) (xNil))))) (xNext)))))))
def told_all (g_reduced_at : PF) (cs : Addr → Prop) (tst : Addr → Option Bool) (kit : Addr → Str → Option Bool) (kitV : Addr → Option Bool) : XS := xSeq (xTry cs tst 2 (xRet (xLst (xCons (xC (.str "answer")) (xCons (xCall g_reduced_at (xCons (xName 0) (xCons (xName 1) (xNil)))) (xNil))))) (fun a d C => told_suite kit kitV a d C)) (xRet (xLst (xCons (xC (.str "other")) (xCons (xC .non) (xNil)))))
def flagN : List Str := ["BadText", "UnknownName", "Twice", "Circle", "BadRow", "NotThere", "TooDeep", "TooBig", "NoMeaning", "NoSolution", "Rough", "InUse", "TooWide", "Stuck", "TooLong"]
/-- the class C is the i-th of the named ones, and a ValueError -/
def KitI (kit : Addr → Str → Option Bool) (kitV : Addr → Option Bool) (C : Addr) (i : Nat) : Prop := (∀ (k : Nat) (n : Str), flagN[k]? = some n → kit C n = some (decide (k = i))) ∧ kitV C = some true
def toldX (i : Nat) (v : T) : List T := [.str (if i = 5 then "NotThere" else if i = 6 then "TooDeep" else "TooBig"), v]
def flL (i : Nat) : List T := (List.range 15).map fun k => .bl (decide (k = i))
theorem told_lc (kitV : Addr → Option Bool) (a d C : Addr) (fs : List Str) (ts : List T) (x0 x1 x4 x5 : Option O) (i : Nat) (hi : i < 15) (hv : kitV C = some true) (K : O → R → Prop) (Z : ZC)
    (hK : K (.lst [.sh (.int (i : Nat))]) [x0, x1, some (.sh (.exn a d C fs ts)), some (.sh (.lst (flL i))), x4, none]) :
    lcE (xRng1 (xCons (xC (T.int 15)) xNil)) (gN 5) (xAnd (xTru (x2 ixT (xName 3) (xName 5))) (xTru (xIsX a d C (kitV C) (xName 2)))) (xName 5) [5]
      [x0, x1, some (.sh (.exn a d C fs ts)), some (.lst ((flL i).map .sh)), x4, x5] (c := ⟨K⟩) (z := ⟨Z⟩) := by
  refine lcI ?_
  simp -implicitDefEqProofs
  refine compI (fun k acc ρ => ∃ x3, ρ = [x0, x1, some (.sh (.exn a d C fs ts)), some x3, x4, none] ∧ RowO x3 (flL i) ∧ (0 < k → x3 = .sh (.lst (flL i))) ∧ acc = if i < k then [.sh (.int (i : Nat))] else []) ⟨_, by simp; rfl, .inl (by simp), by simp, by simp⟩ ?_ ?_
  · rintro k u acc ρ hu ⟨x3, rfl, hr, _, rfl⟩
    obtain ⟨rfl, hk⟩ := range_at hu
    have e : (flL i)[k]? = some (.bl (decide (k = i))) := by
      unfold flL
      rw [List.getElem?_map, List.getElem?_range hk]
      rfl
    simp -implicitDefEqProofs
    rw [nameE_row hr rfl]
    simp -implicitDefEqProofs [e]
    by_cases q : k = i
    · subst q
      simp -implicitDefEqProofs [hv]
      exact .inr rfl
    · simp -implicitDefEqProofs [q]
      refine ⟨.inr rfl, ?_⟩
      by_cases q2 : i < k
      · rw [if_pos q2, if_pos (by omega)]
      · rw [if_neg q2, if_neg (by omega)]
  · rintro acc ρ ⟨x3, rfl, hr, h2, rfl⟩
    simp only [range_len] at h2 ⊢
    have h3 := h2 (by decide)
    subst h3
    have h4 : i < (15 : Int).toNat := hi
    simpa [h4, hi] using hK
theorem pl_suite (kit : Addr → Str → Option Bool) (kitV : Addr → Option Bool) (a d C : Addr) (D : ED) (x0 x1 x3 x4 x5 : Option O) (i : Nat) (v : T) (hi : i = 5 ∨ i = 6 ∨ i = 7) (hk : KitI kit kitV C i)
    (hD : ∀ ρ, D.rt (.lst ((toldX i v).map .sh)) ρ) : told_suite kit kitV a d C D [x0, x1, some (.sh (.exn a d C [if i = 5 then "number" else "limit"] [v])), x3, x4, x5] := by
  obtain ⟨hf, hv⟩ := hk
  have h0 := hf 0 _ rfl
  have h1 := hf 1 _ rfl
  have h2 := hf 2 _ rfl
  have h3 := hf 3 _ rfl
  have h4 := hf 4 _ rfl
  have h5 := hf 5 _ rfl
  have h6 := hf 6 _ rfl
  have h7 := hf 7 _ rfl
  have h8 := hf 8 _ rfl
  have h9 := hf 9 _ rfl
  have h10 := hf 10 _ rfl
  have h11 := hf 11 _ rfl
  have h12 := hf 12 _ rfl
  have h13 := hf 13 _ rfl
  have h14 := hf 14 _ rfl
  clear hf
  unfold told_suite
  rcases hi with rfl | rfl | rfl
  · simp -implicitDefEqProofs [h0, h1, h2, h3, h4, h5, h6, h7, h8, h9, h10, h11, h12, h13, h14]
    refine told_lc kitV a d C _ _ x0 x1 x4 x5 5 (by decide) hv _ _ ?_
    simp -implicitDefEqProofs [lookT]
    simpa [toldX] using hD _
  · simp -implicitDefEqProofs [h0, h1, h2, h3, h4, h5, h6, h7, h8, h9, h10, h11, h12, h13, h14]
    refine told_lc kitV a d C _ _ x0 x1 x4 x5 6 (by decide) hv _ _ ?_
    simp -implicitDefEqProofs [lookT]
    simpa [toldX] using hD _
  · simp -implicitDefEqProofs [h0, h1, h2, h3, h4, h5, h6, h7, h8, h9, h10, h11, h12, h13, h14]
    refine told_lc kitV a d C _ _ x0 x1 x4 x5 7 (by decide) hv _ _ ?_
    simp -implicitDefEqProofs [lookT]
    simpa [toldX] using hD _
/-- the three classes that reduced_at raises -/
structure ExcOk (ga : Str → Addr) (cs : Addr → Prop) (tst : Addr → Option Bool) (kit : Addr → Str → Option Bool) (kitV : Addr → Option Bool) (c : Str) (i : Nat) : Prop where
  cs : cs (ga c)
  tst : tst (ga c) = some true
  kit : KitI kit kitV (ga c) i
def toldL (t : Tm) (j : Int) : List T := match (if 0 ≤ j then (rows0 t)[j.toNat]? else none) with
  | some (u, _) => dueL t j.toNat u
  | none => [.str "NotThere", .int j]
def g__law_told (dd : Nat) : GT := fun ts K _ => ∃ (t : Tm) (j : Int), ts = [t.T, .int j] ∧ t.ok ∧ t.sz ≤ 200 ∧ t.dep ≤ dd ∧ K (.lst ((toldL t j).map .sh))
theorem pl__law_told (ga : Str → Addr) (dd : Nat) (cs : Addr → Prop) (tst : Addr → Option Bool) (kit : Addr → Str → Option Bool) (kitV : Addr → Option Bool)
    (e5 : ExcOk ga cs tst kit kitV "NotThere" 5) (e6 : ExcOk ga cs tst kit kitV "TooDeep" 6) (e7 : ExcOk ga cs tst kit kitV "TooBig" 7)
    (ts : List T) (K0 : O → Prop) (Z0 : ZX) (h : g__law_told dd ts K0 Z0) : x__law_told (g_reduced_at ga dd).pf cs tst kit kitV (endP K0 Z0) (TL.slots 6 ts) := by
  obtain ⟨t, j, rfl, ok, hs, hd, hk⟩ := h
  change told_all _ _ _ _ _ _ _
  unfold told_all xTry
  simp -implicitDefEqProofs
  have suite : ∀ (c : Str) (i : Nat) (v : T), (i = 5 ∨ i = 6 ∨ i = 7) → ExcOk ga cs tst kit kitV c i → toldL t j = toldX i v → ∀ (a d : Addr) (x0 x1 x3 x4 x5 : Option O) (D : ED), (D.rt = fun o _ => K0 o) → told_suite kit kitV a d (ga c) D [x0, x1, some (.sh (.exn a d (ga c) [if i = 5 then "number" else "limit"] [v])), x3, x4, x5] := fun c i v hi e el a d x0 x1 x3 x4 x5 D hD =>
    pl_suite kit kitV a d (ga c) D x0 x1 x3 x4 x5 i v hi e.kit fun ρ => by rw [hD, ← el]; exact hk
  refine ⟨t, j, rfl, ok, by omega, hd, fun hno => ?_, fun i u lv sc hj hr hR => ?_⟩
  · have el : toldL t j = toldX 5 (.int j) := by
      unfold toldL
      by_cases h0 : 0 ≤ j
      · rw [if_pos h0]
        cases hq : (rows0 t)[j.toNat]? with
        | none => simp [toldX]
        | some r =>
          obtain ⟨u, pq, lv, s⟩ := r
          obtain ⟨sc, hw⟩ := wk_of hq
          have hx : rdx u = false := by
            cases q : rdx u with
            | false => rfl
            | true => exact absurd ⟨h0, by unfold isR; rw [hw]; simpa using q⟩ hno
          simp [dueL, hx, toldX]
          omega
      · rw [if_neg h0]
        simp [toldX]
    exact ⟨e5.cs, true, e5.tst, fun _ a d => suite "NotThere" 5 (.int j) (.inl rfl) e5 el a d _ _ _ _ _ _ rfl, by simp⟩
  · subst hj
    have hx : rdx u = true := by
      cases hR with
      | app x b c hc => simp [rdx, Hd.isFn, hc]
      | _ => rfl
    obtain ⟨pq, s, e⟩ := nk_at hr
    have hl : 1 ≤ lv := wk_lv t 1 0 [] _ (List.mem_of_getElem? hr)
    have hlt := rows_lt e
    have hrs := root_sz hR
    have hmul : u.sz * (u.sz + 1) ≤ 200 * 201 := Nat.mul_le_mul (by omega) (by omega)
    have et : toldL t (i : Nat) = dueL t i u := by
      unfold toldL
      rw [if_pos (by omega), show ((i : Nat) : Int).toNat = i by omega, e]
    rw [← rep_dep (root u) e hl, ← rep_sz (root u) e]
    refine ⟨by omega, fun h1 => ?_, fun h1 h2 => ?_, fun h1 h2 => ?_⟩
    · have el : toldL t (i : Nat) = toldX 6 (.int 40) := by rw [et]; simp [dueL, hx, h1, toldX]
      exact ⟨e6.cs, true, e6.tst, fun _ a d => suite "TooDeep" 6 (.int 40) (.inr (.inl rfl)) e6 el a d _ _ _ _ _ _ rfl, by simp⟩
    · have el : toldL t (i : Nat) = toldX 7 (.int 300) := by rw [et]; simp [dueL, hx, show ¬ 40 < (rep t i (root u)).dep by omega, h2, toldX]
      exact ⟨e7.cs, true, e7.tst, fun _ a d => suite "TooBig" 7 (.int 300) (.inr (.inr rfl)) e7 el a d _ _ _ _ _ _ rfl, by simp⟩
    · simp -implicitDefEqProofs
      rw [et] at hk
      simpa [dueL, hx, show ¬ 40 < (rep t i (root u)).dep by omega, show ¬ 300 < (rep t i (root u)).sz by omega] using hk
end Rd
end TL

set_option maxHeartbeats 4000000
/-! _law_wrapped, _law_bound_heads -/
namespace TL
open PySem PySem.Spec PyProof.Rows L2
namespace Rd
def wr_end (g__law_take : IF) (g__law_tree : PF) (g__law_some_heads : IF) (g__law_pick : IF) : XS := (xRet (x2 addT (x2 addT (xSl (xName 1) (xNoP) (xPart (xName 4))) (xName 6)) (xSl (xName 1) (xPart (xName 5)) (xNoP))))
def wr_all (g__law_take : IF) (g__law_tree : PF) (g__law_some_heads : IF) (g__law_pick : IF) : XS := xSeq (xAsg (xCallI 0 g__law_take (xCons (xB ((un1 lenT)) (xCons (xName 1) (xNil))) (xNil))) (gN 4)) (xSeq (xAsg (x2 ixT (x2 ixT (xCall g__law_tree (xCons (xName 1) (xNil))) (xC (.int 3))) (xName 4)) (gN 5)) (xSeq (xAsg (xSl (xName 1) (xPart (xName 4)) (xPart (xName 5))) (gN 6)) (xSeq (xAsg (x2 (gB eqT) (xCallI 0 g__law_take (xCons (xC (.int 4)) (xNil))) (xC (.int 3))) (gN 7)) (xSeq (xAsg (xCallI 0 g__law_some_heads (xCons (xName 2) (xCons (xName 3) (xCons (xName 3) (xCons (xLst (xCons (xC (.str "a")) (xCons (xC (.str "b07")) (xNil)))) (xCons (x2 addT (xC (.int 1)) (xCallI 0 g__law_take (xCons (xC (.int 5)) (xNil)))) (xCons (xC (.int 4)) (xCons (xName 7) (xNil))))))))) (gN 8)) (xSeq (xAsg (xCallI 0 g__law_take (xCons (xC (.int 8)) (xNil))) (gN 9)) (xSeq (xIfS (x2T (intT fun i j => decide (i < j)) (xName 9) (xC (.int 3))) (xAsg (x2 addT (x2 addT (xLst (xCons (xTup (xCons (xC (.str "call")) (xNil))) (xCons (xTup (xCons (xC (.str "fn")) (xCons (xCallI 0 g__law_pick (xCons (xName 2) (xNil))) (xNil)))) (xNil)))) (xName 6)) (xName 8)) (gN 6)) (xIfS (x2T eqT (xName 9) (xC (.int 3))) (xAsg (x2 addT (x2 addT (xLst (xCons (xTup (xCons (xC (.str "call")) (xNil))) (xNil))) (xName 8)) (xName 6)) (gN 6)) (xIfS (x2T eqT (xName 9) (xC (.int 4))) (xAsg (x2 addT (x2 addT (xLst (xCons (xTup (xCons (xC (.str "left")) (xNil))) (xCons (xTup (xCons (xC (.str "pair")) (xNil))) (xNil)))) (xName 6)) (xName 8)) (gN 6)) (xIfS (x2T eqT (xName 9) (xC (.int 5))) (xAsg (x2 addT (x2 addT (xLst (xCons (xTup (xCons (xC (.str "right")) (xNil))) (xCons (xTup (xCons (xC (.str "pair")) (xNil))) (xNil)))) (xName 8)) (xName 6)) (gN 6)) (xIfS (x2T eqT (xName 9) (xC (.int 6))) (xAsg (x2 addT (xLst (xCons (xCallI 0 g__law_pick (xCons (xLst (xCons (xTup (xCons (xC (.str "unseal")) (xNil))) (xCons (xTup (xCons (xC (.str "unseal")) (xNil))) (xCons (xTup (xCons (xC (.str "left")) (xNil))) (xNil))))) (xNil))) (xCons (xTup (xCons (xC (.str "seal")) (xNil))) (xNil)))) (xName 6)) (gN 6)) (xAsg (x2 addT (xLst (xCons (xTup (xCons (xC (.str "note")) (xCons (xCallI 0 g__law_pick (xCons (xLst (xCons (xTup (xCons (xC (.str "kind")) (xCons (xC (.str "a")) (xNil)))) (xCons (xTup (xCons (xC (.str "seal")) (xCons (xTup (xCons (xC (.str "kind")) (xCons (xC (.str "zz")) (xNil)))) (xNil)))) (xNil)))) (xNil))) (xNil)))) (xNil))) (xName 6)) (gN 6))))))) (wr_end g__law_take g__law_tree g__law_some_heads g__law_pick)))))))

def g__law_wrapped : GI := fun o ts K _ => StoreOk o ∧ ∃ (t : Tm) (ns ws : List T), ts = [hdsT t, .lst ns, .lst ws] ∧ t.ok ∧ t.sz ≤ 150 ∧ strsOk ns ∧ strsOk ws ∧ ns ≠ [] ∧ ns.length ≤ 1000 ∧ ws.length ≤ 1000 ∧
  ∀ (r : Tm) o', StoreOk o' → r.ok → r.sz ≤ t.sz + 7 → K (.lst (r.heads.map fun h => .sh h.t)) o'
theorem cut_pre (t : Tm) {i : Int} {n : Nat} (h : i = n) : cutL (t.heads.map Hd.t) none (some i) = (t.heads.take n).map Hd.t := by subst h; rw [cutL_to, List.map_take]
theorem cut_suf (t : Tm) {i : Int} {n : Nat} (h : i = n) : cutL (t.heads.map Hd.t) (some i) none = (t.heads.drop n).map Hd.t := by subst h; rw [cutL_from, List.map_drop]
theorem pl_wr_end (v0 : V) (K0 : O → O → Prop) (Z0 : ZX) (t u w : Tm) (n lv s : Nat) (pq : Option Nat) (ok : t.ok) (hs : t.sz ≤ 150) (e : (rows0 t)[n]? = some (u, pq, lv, s)) (okw : w.ok) (hw : w.sz ≤ u.sz + 7) (a2 a3 a7 a8 a9 : Option O) (o : O) (ho : StoreOk o) (e5 : Int) (he : e5 = ((n + u.sz : Nat) : Int))
    (hk : ∀ (r : Tm) o', StoreOk o' → r.ok → r.sz ≤ t.sz + 7 → K0 (.lst (r.heads.map fun h => .sh h.t)) o') :
    wr_end g__law_take.pf g__law_tree.pf g__law_some_heads.pf g__law_pick.pf (endI v0 K0 Z0) [some (.io v0 o), some (.sh (hdsT t)), a2, a3, some (.sh (.int (n : Nat))), some (.sh (.int e5)), some (.lst (w.heads.map fun h => .sh h.t)), a7, a8, a9] := by
  obtain ⟨cells, p, n', l, c, b, q, rfl, hp, hn⟩ := id ho
  have hlt := rows_lt e
  have hsz := rep_sz w e
  have hr := hk (rep t n w) _ ho (rep_ok okw t n ok) (by omega)
  rw [rep_heads w e] at hr
  unfold wr_end
  simp -implicitDefEqProofs [hdsT]
  rw [cut_pre t (n := n) rfl, cut_suf t (n := n + u.sz) he]
  refine ⟨by simp [heads_len]; omega, by simp [heads_len]; omega, ?_⟩
  simpa [Function.comp_def] using hr
theorem one_of {α : Type} {a b : α} {l : List α} (h : a = b) : a :: l = b :: l := by rw [h]
theorem pl__law_wrapped (v0 : V) (o : O) (ts : List T) (K0 : O → O → Prop) (Z0 : ZX) (h : g__law_wrapped o ts K0 Z0) : x__law_wrapped g__law_take.pf g__law_tree.pf g__law_some_heads.pf g__law_pick.pf (endI v0 K0 Z0) (some (.io v0 o) :: TL.slots 9 ts) := by
  obtain ⟨ho, t, ns, ws, rfl, ok, hs, hns, hws, hne, l1, l2, hk⟩ := h
  obtain ⟨cells, p, n', l, c, b, q, rfl, hp, hn⟩ := id ho
  have hpos := sz_pos t
  change wr_all _ _ _ _ _ _
  unfold wr_all
  simp -implicitDefEqProofs [hdsT, heads_len]
  refine ⟨ho, _, rfl, by omega, fun k o1 ho1 h0 h1 => ?_⟩
  obtain ⟨n, rfl⟩ : ∃ n : Nat, k = n := ⟨k.toNat, by omega⟩
  have hnt : n < t.sz := by omega
  obtain ⟨h, ps, pq, lv, s, e⟩ := rows_some t hnt
  have oku := ok_rows ok e
  have hult := rows_lt e
  obtain ⟨cells1, p1, n1, l1', c1, b1, q1, rfl, hp1, hn1⟩ := id ho1
  have hen := tend_at e
  simp -implicitDefEqProofs
  refine ⟨t, rfl, ok, by omega, ?_⟩
  simp -implicitDefEqProofs [treeT, hen]
  have c1 : cutL (t.heads.map Hd.t) (some (n : Int)) (some ((n : Int) + (1 + (Tms.sz ps : Int)))) = (Tm.nd h ps).heads.map Hd.t := cut_heads e rfl (by simp)
  rw [c1]
  have esz : (n : Int) + (1 + (Tms.sz ps : Int)) = ((n + (Tm.nd h ps).sz : Nat) : Int) := by simp
  generalize (n : Int) + (1 + (Tms.sz ps : Int)) = e5 at esz
  generalize Tm.nd h ps = u at *
  refine ⟨ho1, 4, rfl, by decide, fun k2 o2 ho2 h20 h21 => ?_⟩
  obtain ⟨cells2, p2, n2, l2', c2, b2, q2, rfl, hp2, hn2⟩ := id ho2
  simp -implicitDefEqProofs
  refine ⟨ho2, 5, rfl, by decide, fun k3 o3 ho3 h30 h31 => ?_⟩
  obtain ⟨cells3, p3, n3, l3', c3, b3, q3, rfl, hp3, hn3⟩ := id ho3
  obtain ⟨m, rfl⟩ : ∃ m : Nat, k3 = m := ⟨k3.toNat, by omega⟩
  simp -implicitDefEqProofs
  refine ⟨ho3, ns, ws, ws, [.str "a", .str "b07"], 1 + m, 4, decide (k2 = 3), by simp, hns, hws, hws, ?_, hne, by omega, by omega, by omega, by simp, by omega, by omega, by omega, fun z o4 ho4 okz hz => ?_⟩
  · intro x hx
    simp at hx
    rcases hx with rfl | rfl
    · exact ⟨_, rfl, sOk_lit _⟩
    · exact ⟨_, rfl, sOk_lit _⟩
  obtain ⟨cells4, p4, n4, l4', c4, b4, q4, rfl, hp4, hn4⟩ := id ho4
  simp -implicitDefEqProofs
  refine ⟨ho4, 8, rfl, by decide, fun k5 o5 ho5 h50 h51 => ?_⟩
  obtain ⟨cells5, p5, n5, l5', c5, b5, q5, rfl, hp5, hn5⟩ := id ho5
  simp -implicitDefEqProofs
  have fin := fun (w : Tm) (okw : w.ok) (hw : w.sz ≤ u.sz + 7) (a2 a3 a7 a8 a9 : Option O) (o : O) (ho : StoreOk o) => pl_wr_end v0 K0 Z0 t u w n lv s pq ok hs e okw hw a2 a3 a7 a8 a9 o ho e5 esz hk
  by_cases w1 : k5 < 3
  · simp -implicitDefEqProofs [w1]
    refine ⟨ho5, _, ns, rfl, .inl rfl, hne, by omega, fun x hx o6 ho6 => ?_⟩
    obtain ⟨y, rfl, hy⟩ := hns x hx
    simp -implicitDefEqProofs [heads_len]
    refine ⟨by omega, by omega, ?_⟩
    have f1 := fin (Tm.nd .app [.nd (.fn y) [u], z]) (ok_nd.mpr ⟨rfl, trivial, (ok_nd.mpr ⟨rfl, hy, oku, trivial⟩), okz, trivial⟩) (by simp; omega) (some (O.sh (T.lst ns))) (some (O.sh (T.lst ws))) (some (O.sh (T.bl (decide (k2 = 3))))) (some (O.sh (T.lst (List.map (fun a => a.t) z.heads)))) (some (O.sh (T.int k5))) _ ho6
    simp [Function.comp_def, hdsT] at f1 ⊢
    exact f1
  · simp -implicitDefEqProofs [w1]
    by_cases w3 : k5 = 3
    · simp -implicitDefEqProofs [w3, heads_len]
      subst w3
      refine ⟨by omega, by omega, ?_⟩
      have f1 := fin (Tm.nd .app [z, u]) (ok_nd.mpr ⟨rfl, trivial, okz, oku, trivial⟩) (by simp; omega) (some (O.sh (T.lst ns))) (some (O.sh (T.lst ws))) (some (O.sh (T.bl (decide (k2 = 3))))) (some (O.sh (T.lst (List.map (fun a => a.t) z.heads)))) (some (O.sh (T.int 3))) _ ho5
      simp [Function.comp_def, hdsT] at f1 ⊢
      exact f1
    · simp -implicitDefEqProofs [w3]
      by_cases w4 : k5 = 4
      · simp -implicitDefEqProofs [w4, heads_len]
        subst w4
        refine ⟨by omega, by omega, ?_⟩
        have f1 := fin (Tm.nd .lft [.nd .pr [u, z]]) (ok_nd.mpr ⟨rfl, trivial, (ok_nd.mpr ⟨rfl, trivial, oku, okz, trivial⟩), trivial⟩) (by simp; omega) (some (O.sh (T.lst ns))) (some (O.sh (T.lst ws))) (some (O.sh (T.bl (decide (k2 = 3))))) (some (O.sh (T.lst (List.map (fun a => a.t) z.heads)))) (some (O.sh (T.int 4))) _ ho5
        simp [Function.comp_def, hdsT] at f1 ⊢
        exact f1
      · simp -implicitDefEqProofs [w4]
        by_cases w5 : k5 = 5
        · simp -implicitDefEqProofs [w5, heads_len]
          subst w5
          refine ⟨by omega, by omega, ?_⟩
          have f1 := fin (Tm.nd .rgt [.nd .pr [z, u]]) (ok_nd.mpr ⟨rfl, trivial, (ok_nd.mpr ⟨rfl, trivial, okz, oku, trivial⟩), trivial⟩) (by simp; omega) (some (O.sh (T.lst ns))) (some (O.sh (T.lst ws))) (some (O.sh (T.bl (decide (k2 = 3))))) (some (O.sh (T.lst (List.map (fun a => a.t) z.heads)))) (some (O.sh (T.int 5))) _ ho5
          simp [Function.comp_def, hdsT] at f1 ⊢
          exact f1
        · simp -implicitDefEqProofs [w5]
          by_cases w6 : k5 = 6
          · simp -implicitDefEqProofs [w6]
            refine ⟨ho5, _, _, rfl, .inl rfl, by simp, by simp, fun x hx o6 ho6 => ?_⟩
            subst w6
            obtain ⟨hd, rfl, har, hg⟩ : ∃ hd : Hd, x = hd.t ∧ hd.ar = 1 ∧ hd.good := by
              simp at hx
              rcases hx with rfl | rfl
              · exact ⟨.uns, rfl, rfl, trivial⟩
              · exact ⟨.lft, rfl, rfl, trivial⟩
            simp -implicitDefEqProofs [heads_len]
            refine ⟨by omega, ?_⟩
            have f1 := fin (Tm.nd hd [.nd .sel [u]]) (ok_nd.mpr ⟨har.symm, hg, ok_nd.mpr ⟨rfl, trivial, oku, trivial⟩, trivial⟩) (by simp; omega) (some (O.sh (T.lst ns))) (some (O.sh (T.lst ws))) (some (O.sh (T.bl (decide (k2 = 3))))) (some (O.lst (List.map (fun h => O.sh h.t) z.heads))) (some (O.sh (T.int 6))) _ ho6
            simp [Function.comp_def, hdsT] at f1 ⊢
            exact f1
          · simp -implicitDefEqProofs [w6]
            refine ⟨ho5, _, _, rfl, .inl rfl, by simp, by simp, fun x hx o6 ho6 => ?_⟩
            have hg : (Hd.note x).good := by
              simp at hx
              rcases hx with rfl | rfl
              · exact ⟨by simp, by simp, by simp, by simp⟩
              · exact ⟨by simp, by simp, by simp, by simp⟩
            simp -implicitDefEqProofs [heads_len]
            refine ⟨by omega, ?_⟩
            have f1 := fin (Tm.nd (.note x) [u]) (ok_nd.mpr ⟨rfl, hg, oku, trivial⟩) (by simp; omega) (some (O.sh (T.lst ns))) (some (O.sh (T.lst ws))) (some (O.sh (T.bl (decide (k2 = 3))))) (some (O.lst (List.map (fun h => O.sh h.t) z.heads))) (some (O.sh (T.int k5))) _ ho6
            simp [Function.comp_def, hdsT] at f1 ⊢
            exact f1
end Rd
end TL

set_option maxHeartbeats 4000000
/-! _law_bound_heads -/
namespace TL
open PySem PySem.Spec PyProof.Rows L2
namespace Rd
def sels : Nat → Tm → Tm
  | 0, b => b
  | k + 1, b => .nd .sel [sels k b]
theorem sels_ok {b : Tm} (ok : b.ok) : ∀ k, (sels k b).ok
  | 0 => ok
  | k + 1 => ok_nd.mpr ⟨rfl, trivial, sels_ok ok k, trivial⟩
theorem sels_sz (b : Tm) : ∀ k, (sels k b).sz = k + b.sz
  | 0 => by simp [sels]
  | k + 1 => by have := sels_sz b k; simp [sels]; omega
theorem sels_heads (b : Tm) : ∀ k, (sels k b).heads = List.replicate k .sel ++ b.heads
  | 0 => by simp [sels]
  | k + 1 => by simp [sels, sels_heads b k, List.replicate_succ]
def pw (x : Str) : Nat → Tm
  | 0 => .nd (.nam x) []
  | k + 1 => .nd .pr [pw x k, pw x k]
theorem pw_ok {x : Str} (h : sOk x) : ∀ k, (pw x k).ok
  | 0 => ok_nd.mpr ⟨rfl, h, trivial⟩
  | k + 1 => ok_nd.mpr ⟨rfl, trivial, pw_ok h k, pw_ok h k, trivial⟩
theorem pw_sz (x : Str) : ∀ k, k ≤ 3 → (pw x k).sz ≤ 15
  | 0, _ => by simp [pw]
  | 1, _ => by simp [pw]
  | 2, _ => by simp [pw]
  | 3, _ => by simp [pw]
  | k + 4, h => by omega
theorem seal_map (f : T → O) (n : Nat) (h : ∀ i : Nat, f (.int (i : Nat)) = .sh Hd.sel.t) : (rangeL 0 n).map f = (List.replicate n Hd.sel).map fun h => .sh h.t := by
  unfold rangeL
  rw [List.map_map, List.map_replicate]
  apply List.ext_getElem?
  intro i
  rw [List.getElem?_map, List.getElem?_replicate]
  by_cases q : i < n
  · rw [List.getElem?_range q, if_pos q]
    show some (f (.int (0 + (i : Int)))) = _
    rw [Int.zero_add, h]
  · rw [List.getElem?_eq_none (by simpa using q), if_neg q]
    rfl
@[simp] theorem ots_rep (n : Nat) (o : O) : O.ts (List.replicate n o) = List.replicate n o.t := by rw [O.ts_map, List.map_replicate]
def g__law_bound_heads : GI := fun o ts K _ => StoreOk o ∧ ∃ x : Str, ts = [.str x] ∧ sOk x ∧ ∀ (r : Tm) o', StoreOk o' → r.ok → r.sz ≤ 150 → K (.lst (r.heads.map fun h => .sh h.t)) o'
theorem pl__law_bound_heads (v0 : V) (o : O) (ts : List T) (K0 : O → O → Prop) (Z0 : ZX) (h : g__law_bound_heads o ts K0 Z0) : x__law_bound_heads g__law_take.pf g__law_chain.pf (endI v0 K0 Z0) (some (.io v0 o) :: TL.slots 8 ts) := by
  obtain ⟨ho, x, rfl, hx, hk⟩ := h
  obtain ⟨cells, p, n', l, c, b, q, rfl, hp, hn⟩ := id ho
  unfold x__law_bound_heads
  simp -implicitDefEqProofs
  refine ⟨ho, 10, rfl, by decide, fun k1 o1 ho1 h10 h11 => ?_⟩
  obtain ⟨cells1, p1, n1, l1, c1, b1, q1, rfl, hp1, hn1⟩ := id ho1
  simp -implicitDefEqProofs
  refine ⟨ho1, 4, rfl, by decide, fun k2 o2 ho2 h20 h21 => ?_⟩
  obtain ⟨cells2, p2, n2, l2, c2, b2, q2, rfl, hp2, hn2⟩ := id ho2
  simp -implicitDefEqProofs
  refine ⟨ho2, 6, rfl, by decide, fun k3 o3 ho3 h30 h31 => ?_⟩
  obtain ⟨cells3, p3, n3, l3, c3, b3, q3, rfl, hp3, hn3⟩ := id ho3
  simp -implicitDefEqProofs
  refine ⟨ho3, 4, rfl, by decide, fun k4 o4 ho4 h40 h41 => ?_⟩
  obtain ⟨cells4, p4, n4, l4, c4, b4, q4, rfl, hp4, hn4⟩ := id ho4
  simp -implicitDefEqProofs
  obtain ⟨lv, elv⟩ : ∃ lv : Nat, (18 + k1 : Int) = lv := ⟨(18 + k1).toNat, by omega⟩
  obtain ⟨se, ese⟩ : ∃ se : Nat, (35 + k2 - lv : Int) = se := ⟨(35 + k2 - lv).toNat, by omega⟩
  obtain ⟨ou, rfl⟩ : ∃ ou : Nat, k3 = ou := ⟨k3.toNat, by omega⟩
  obtain ⟨sd, esd⟩ : ∃ sd : Nat, (27 + k4 - se : Int) = sd := ⟨(27 + k4 - se).toNat, by omega⟩
  rw [elv, ese, esd]
  refine foI ?_
  simp -implicitDefEqProofs
  refine forI (fun i ρ => ∃ x7, ρ = [some (.io v0 (sto cells4 p4 n4 l4 c4 b4 q4)), some (.sh (.str x)), some (.sh (.int lv)), some (.sh (.int se)), some (.sh (.int ou)), some (.sh (.int sd)), some (.lst ((pw x i).heads.map fun h => .sh h.t)), x7, none]) ⟨none, by simp [pw, Hd.t, Hd.pre, Hd.post]⟩ ?_ ?_
  · rintro i u ρ hi ⟨x7, rfl⟩
    obtain ⟨rfl, hilt⟩ := range_at hi
    have hi3 : i < 3 := hilt
    have hps := pw_sz x i (by omega)
    simp -implicitDefEqProofs [heads_len]
    refine ⟨by omega, by omega, ?_⟩
    simp [pw, Function.comp_def]
    rfl
  · rintro ρ ⟨x7, rfl⟩
    have hps := pw_sz x 3 (by omega)
    have hpo := pw_ok hx 3
    simp only [range_len]
    generalize pw x 3 = bd at hps hpo
    simp -implicitDefEqProofs
    refine lcI ?_
    simp -implicitDefEqProofs
    refine ⟨by omega, ?_⟩
    refine compMap (f := fun _ => .sh Hd.sel.t) rfl (by simp; omega) ?_ fun t ht C E hE => ?_
    · rw [seal_map _ _ fun _ => rfl]
      simp -implicitDefEqProofs [heads_len]
      refine ⟨by omega, by omega, ?_⟩
      refine ⟨ho4, x, lv, 33, by simp, hx, by omega, by omega, by omega, fun ca o5 ho5 oka sza noa => ?_⟩
      obtain ⟨cells5, p5, n5, l5, c5, b5, q5, rfl, hp5, hn5⟩ := id ho5
      simp -implicitDefEqProofs [heads_len]
      refine ⟨by omega, lcI ?_⟩
      simp -implicitDefEqProofs
      refine ⟨by omega, ?_⟩
      refine compMap (f := fun _ => .sh Hd.sel.t) rfl (by simp; omega) ?_ fun t ht C E hE => ?_
      · rw [seal_map _ _ fun _ => rfl]
        simp -implicitDefEqProofs [heads_len]
        refine ⟨by omega, by omega, ⟨by decide, by decide⟩, ?_⟩
        refine ⟨ho5, x, sd / 2 + 1, sd, by simp, hx, by omega, by omega, by omega, fun cb o6 ho6 okb szb nob => ?_⟩
        simp -implicitDefEqProofs [heads_len]
        refine ⟨by omega, ?_⟩
        have okf : (Tm.nd (.fn x) [sels (se - ou) bd]).ok := ok_nd.mpr ⟨rfl, hx, sels_ok hpo _, trivial⟩
        have okap : (Tm.nd .app [.nd (.fn x) [sels (se - ou) bd], ca]).ok := ok_nd.mpr ⟨rfl, trivial, okf, oka, trivial⟩
        have hr := hk (.nd .pr [sels ou (.nd .app [.nd (.fn x) [sels (se - ou) bd], ca]), cb]) o6 ho6
          (ok_nd.mpr ⟨rfl, trivial, sels_ok okap _, okb, trivial⟩)
          (by simp [sels_sz]; omega)
        simp [sels_heads, Function.comp_def] at hr ⊢
        exact hr
      · obtain ⟨i, hi, rfl⟩ := range_mem ht
        simp -implicitDefEqProofs
        exact hE _ rfl
    · obtain ⟨i, hi, rfl⟩ := range_mem ht
      simp -implicitDefEqProofs
      exact hE _ rfl
end Rd
end TL

set_option maxHeartbeats 4000000
/-! the law: facts -/
namespace TL
open PySem PySem.Spec PyProof.Rows L2
namespace Rd
def nodeAt (t : Tm) (n : Nat) : Tm := match (rows0 t)[n]? with
  | some (u, _) => u
  | none => t
theorem nodeAt_e {t u : Tm} {m lv s : Nat} {pq : Option Nat} (e : (rows0 t)[m]? = some (u, pq, lv, s)) : nodeAt t m = u := by unfold nodeAt; rw [e]
theorem isR_node {t : Tm} {n : Nat} (h : n < t.sz) : isR t n = rdx (nodeAt t n) := by
  obtain ⟨hd, ps, pq, lv, s, e⟩ := rows_some t h
  obtain ⟨sc, hw⟩ := wk_of e
  rw [nodeAt_e e]
  unfold isR
  rw [hw]
  rfl
mutual
theorem tm_nn : ∀ t : Tm, t.ok → t.T.nn ≤ 27 * t.sz ∧ t.T.pl = true
  | .nd h ps, ok => by
    obtain ⟨_, hg, hp⟩ := ok_nd.mp ok
    obtain ⟨h1, h2⟩ := tms_nn ps hp
    rw [Tm.T, nn_tup, pl_tup, nns_app, nns_app, sz_nd, pls_app, pls_app, h2]
    cases h with
    | note f =>
      have h3 := hg.2.2.1
      have h4 := hg.2.2.2
      simp [Hd.pre, Hd.post, h4]
      omega
    | con w | nam w | use w | fn w | pick w =>
      have h3 : PyData.strOk w = true := hg
      simp [Hd.pre, Hd.post, h3]
      omega
    | _ =>
      simp [Hd.pre, Hd.post]
      omega
theorem tms_nn : ∀ ps : List Tm, Tms.ok ps → T.nns (Tms.T ps) ≤ 27 * Tms.sz ps ∧ T.pls (Tms.T ps) = true
  | [], _ => by simp
  | p :: ps, ok => by
    obtain ⟨h1, h2⟩ := tm_nn p ok.1
    obtain ⟨h3, h4⟩ := tms_nn ps ok.2
    simp [h2, h4]
    omega
end
theorem due_nn {t u : Tm} {n lv s : Nat} {pq : Option Nat} (ok : t.ok) (e : (rows0 t)[n]? = some (u, pq, lv, s)) : (T.lst (dueL t n u)).nn ≤ 8200 ∧ (T.lst (dueL t n u)).pl = true := by
  unfold dueL
  split
  · rename_i hx
    have hR := rdx_iff (ok_rows ok e) hx
    have hrt := root_ok (ok_rows ok e) hR
    obtain ⟨h1, h2⟩ := tm_nn _ (rep_ok hrt t n ok)
    split
    · simp
    · split
      · simp
      · simp [h2]
        omega
  · simp
theorem nns_map {α : Type} (f : α → T) (b : Nat) : ∀ l : List α, (∀ x ∈ l, (f x).nn ≤ b ∧ (f x).pl = true) → T.nns (l.map f) ≤ b * l.length ∧ T.pls (l.map f) = true
  | [], _ => by simp
  | x :: l, h => by
    obtain ⟨h1, h2⟩ := nns_map f b l fun y hy => h y (by simp [hy])
    obtain ⟨h3, h4⟩ := h x (by simp)
    simp [h2, h4, Nat.mul_add]
    omega
def rdcF (t : Tm) : T → O
  | .int i => .lst ((rdh (nodeAt t i.toNat)).map fun h => .sh h.t)
  | _ => .sh .non
def dueF (t : Tm) : T → O
  | .int i => .lst ((dueL t i.toNat (nodeAt t i.toNat)).map .sh)
  | _ => .sh .non
def toldF (t : Tm) : T → O
  | .int i => .lst ((toldL t i).map .sh)
  | _ => .sh .non
def lostF : T → O
  | .int i => .lst [.sh (.str "NotThere"), .sh (.int i)]
  | _ => .sh .non
/-- a row that is read the first time or again, of any entries -/
def RowX (x : O) (l : List T) : Prop := (∃ os, x = .lst os ∧ O.ts os = l) ∨ x = .sh (.lst l)
theorem RowX.t {x : O} {l : List T} (h : RowX x l) : x.t = .lst l := by
  rcases h with ⟨os, rfl, rfl⟩ | rfl <;> rfl
theorem nameE_rowX {x : O} {l : List T} (h : RowX x l) {ρ : R} {i : Nat} (hi : ρ[i]? = some (some x)) (f : O → R → Prop) : nameE x ρ i (c := ⟨f⟩) = f (.sh (.lst l)) (ρ.set i (some (.sh (.lst l)))) := by
  rcases h with ⟨os, rfl, rfl⟩ | rfl
  · rfl
  · exact nameE_row (.inr rfl) hi f
theorem ints_same (l : List Nat) : T.nns (l.map fun (n : Nat) => .int (n : Nat)) = l.length ∧ T.pls (l.map fun (n : Nat) => .int (n : Nat)) = true := by
  induction l with
  | nil => simp
  | cons a l ih => simp [ih]; omega
theorem rxs_lt {t : Tm} {n : Nat} (h : n ∈ rxs t) : n < t.sz := by
  unfold rxs at h
  simpa using (List.mem_filter.mp h).1
theorem rxs_len (t : Tm) : (rxs t).length ≤ t.sz := by
  unfold rxs
  exact Nat.le_trans (List.length_filter_le _ _) (by simp)
end Rd
end TL

set_option maxHeartbeats 4000000
/-! the law: its last loop -/
namespace TL
open PySem PySem.Spec PyProof.Rows L2
namespace Rd
def lw_loop (g__law_store : PF) (g__law_letters : IF) (g__law_take : IF) (g__law_bound_heads : IF) (g__law_amount : IF) (g__law_some_heads : IF) (g__law_wrapped : IF) (g__law_tree : PF) (g__law_term : PF) (g__law_reduct : PF) (g__law_due : PF) (g_redexes : PF) (g__law_same : PF) (g__law_told : PF) : XS := (xSeq (xFor (xRng1 (xCons (xC (.int 2)) (xNil))) (gN 3) (xSeq (xAsg (xCall g_redexes (xCons (xName 8) (xNil))) (gN 15)) (xSeq (xIfS (xBorT (xNot (xTru (xCall g__law_same (xCons (xName 15) (xCons (xName 11) (xNil))))))) (xRet (xC (.bl false))) (xNext)) (xSeq (xExp (xApp 15 (xCons (xC (.int 0)) (xNil)))) (xSeq (xIfS (xNot (xTru (xCall g__law_same (xCons (xLc (xSeqI (xName 12)) (gN 10) (xYes) (xCall g__law_told (xCons (xName 8) (xCons (xName 10) (xNil)))) [10]) (xCons (xName 13) (xNil)))))) (xRet (xC (.bl false))) (xNext)) (xIfS (xNot (xTru (xCall g__law_same (xCons (xLc (xSeqI (xName 14)) (gN 10) (xYes) (xCall g__law_told (xCons (xName 8) (xCons (xName 10) (xNil)))) [10]) (xCons (xLc (xSeqI (xName 14)) (gN 10) (xYes) (xLst (xCons (xC (.str "NotThere")) (xCons (xName 10) (xNil)))) [10]) (xNil)))))) (xRet (xC (.bl false))) (xNext))))))) (xRet (xCall g__law_same (xCons (xName 8) (xCons (xCall g__law_term (xCons (xName 5) (xNil))) (xNil))))))
def lw_dues (g__law_store : PF) (g__law_letters : IF) (g__law_take : IF) (g__law_bound_heads : IF) (g__law_amount : IF) (g__law_some_heads : IF) (g__law_wrapped : IF) (g__law_tree : PF) (g__law_term : PF) (g__law_reduct : PF) (g__law_due : PF) (g_redexes : PF) (g__law_same : PF) (g__law_told : PF) : XS := (xSeq (xAsg (xLc (xSeqI (xName 12)) (gN 10) (xYes) (xCall g__law_due (xCons (xName 5) (xCons (x2 ixT (xName 7) (xC (.int 3))) (xCons (xName 10) (xCons (x2 ixT (xName 9) (xName 10)) (xNil)))))) [10]) (gN 13)) (xSeq (xAsg (xLst (xCons (xB ((un1 lenT)) (xCons (xName 5) (xNil))) (xCons (xNeg (xC (.int 1))) (xCons (xNeg (xB ((un1 lenT)) (xCons (xName 5) (xNil)))) (xCons (x2 addT (xB ((un1 lenT)) (xCons (xName 5) (xNil))) (xC (.int 300))) (xCons (xC (.int 999999999999)) (xCons (xNeg (xC (.int 999999999999))) (xNil)))))))) (gN 14)) (lw_loop g__law_store g__law_letters g__law_take g__law_bound_heads g__law_amount g__law_some_heads g__law_wrapped g__law_tree g__law_term g__law_reduct g__law_due g_redexes g__law_same g__law_told)))
def lw_tail (g__law_store : PF) (g__law_letters : IF) (g__law_take : IF) (g__law_bound_heads : IF) (g__law_amount : IF) (g__law_some_heads : IF) (g__law_wrapped : IF) (g__law_tree : PF) (g__law_term : PF) (g__law_reduct : PF) (g__law_due : PF) (g_redexes : PF) (g__law_same : PF) (g__law_told : PF) : XS := (xSeq (xAsg (xCall g__law_tree (xCons (xName 5) (xNil))) (gN 7)) (xSeq (xAsg (xCall g__law_term (xCons (xName 5) (xNil))) (gN 8)) (xSeq (xAsg (xLc (xRng1 (xCons (xB ((un1 lenT)) (xCons (xName 5) (xNil))) (xNil))) (gN 10) (xYes) (xCall g__law_reduct (xCons (xName 5) (xCons (xName 7) (xCons (xName 10) (xNil))))) [10]) (gN 9)) (xSeq (xAsg (xLc (xRng1 (xCons (xB ((un1 lenT)) (xCons (xName 5) (xNil))) (xNil))) (gN 10) (x2T (intT fun i j => decide (j < i)) (xB ((un1 lenT)) (xCons (x2 ixT (xName 9) (xName 10)) (xNil))) (xC (.int 0))) (xName 10) [10]) (gN 11)) (xSeq (xAsg (xListRg (xB ((un1 lenT)) (xCons (xName 5) (xNil)))) (gN 12)) (xSeq (xIfS (x2T (intT fun i j => decide (j < i)) (xB ((un1 lenT)) (xCons (xName 5) (xNil))) (xC (.int 30))) (xAsg (x2 addT (xSl (xName 11) (xNoP) (xPart (xC (.int 12)))) (xLc (xRng1 (xCons (xC (.int 8)) (xNil))) (gN 3) (xYes) (xCallI 1 g__law_take (xCons (xB ((un1 lenT)) (xCons (xName 5) (xNil))) (xNil))) [3])) (gN 12)) (xNext)) (lw_dues g__law_store g__law_letters g__law_take g__law_bound_heads g__law_amount g__law_some_heads g__law_wrapped g__law_tree g__law_term g__law_reduct g__law_due g_redexes g__law_same g__law_told)))))))
def lw_all (g__law_store : PF) (g__law_letters : IF) (g__law_take : IF) (g__law_bound_heads : IF) (g__law_amount : IF) (g__law_some_heads : IF) (g__law_wrapped : IF) (g__law_tree : PF) (g__law_term : PF) (g__law_reduct : PF) (g__law_due : PF) (g_redexes : PF) (g__law_same : PF) (g__law_told : PF) : XS := xSeq (xAsg (xCall g__law_store (xCons (xName 0) (xNil))) (gN 1)) (xSeq (xAsg (xLc (xRng1 (xCons (xC (.int 2)) (xNil))) (gN 3) (xYes) (xCallI 1 g__law_letters (xCons (x2 addT (xC (.int 1)) (xCallI 1 g__law_take (xCons (xC (.int 8)) (xNil)))) (xNil))) [3]) (gN 2)) (xSeq (xExp (xApp 2 (xCons (xIxN 2 (xCallI 1 g__law_take (xCons (xC (.int 2)) (xNil)))) (xNil)))) (xSeq (xAsg (xLst (xCons (xIxN 2 (xC (.int 0))) (xCons (xCallI 1 g__law_letters (xCons (x2 addT (xC (.int 1)) (xCallI 1 g__law_take (xCons (xC (.int 8)) (xNil)))) (xNil))) (xNil)))) (gN 4)) (xSeq (xIfS (x2T eqT (xCallI 1 g__law_take (xCons (xC (.int 5)) (xNil))) (xC (.int 4))) (xAsg (xCallI 1 g__law_bound_heads (xCons (xIxN 2 (xC (.int 0))) (xNil))) (gN 5)) (xSeq (xAsg (x2 ixT (xLst (xCons (xCallI 1 g__law_amount (xCons (xC (.int 1)) (xCons (xC (.int 10)) (xNil)))) (xCons (xC (.int 60)) (xNil)))) (xB ((un1 toIntT)) (xCons (x2 (gB eqT) (xCallI 1 g__law_take (xCons (xC (.int 6)) (xNil))) (xC (.int 5))) (xNil)))) (gN 6)) (xSeq (xAsg (xCallI 1 g__law_some_heads (xCons (xName 2) (xCons (xName 4) (xCons (xName 4) (xCons (xLst (xCons (xC (.str "a")) (xCons (xC (.str "b07")) (xNil)))) (xCons (xName 6) (xCons (xC (.int 12)) (xCons (x2 (gB eqT) (xCallI 1 g__law_take (xCons (xC (.int 2)) (xNil))) (xC (.int 1))) (xNil))))))))) (gN 5)) (xFor (xRng1 (xCons (x2 addT (xC (.int 1)) (xCallI 1 g__law_take (xCons (xC (.int 5)) (xNil)))) (xNil))) (gN 3) (xAsg (xCallI 1 g__law_wrapped (xCons (xName 5) (xCons (xName 2) (xCons (xName 4) (xNil))))) (gN 5)))))) (lw_tail g__law_store g__law_letters g__law_take g__law_bound_heads g__law_amount g__law_some_heads g__law_wrapped g__law_tree g__law_term g__law_reduct g__law_due g_redexes g__law_same g__law_told)))))

theorem toldL_in {t u : Tm} {n lv s : Nat} {pq : Option Nat} (e : (rows0 t)[n]? = some (u, pq, lv, s)) : toldL t (n : Nat) = dueL t n (nodeAt t n) := by
  unfold toldL
  rw [if_pos (by omega), show ((n : Nat) : Int).toNat = n by omega, e, nodeAt_e e]
theorem toldL_out {t : Tm} {j : Int} (h : ¬ (0 ≤ j ∧ j < t.sz)) : toldL t j = [.str "NotThere", .int j] := by
  unfold toldL
  by_cases h0 : 0 ≤ j
  · rw [if_pos h0, List.getElem?_eq_none (by rw [rows0_len]; omega)]
  · rw [if_neg h0]
def dueR (t : Tm) (n : Nat) : T := .lst (dueL t n (nodeAt t n))
def lostL (t : Tm) : List Int := [(t.sz : Int), -1, -(t.sz : Int), (t.sz : Int) + 300, 999999999999, -999999999999]
def intsT (l : List Nat) : List T := l.map fun n => .int (n : Nat)
theorem pl_lw_loop (dd : Nat) (K0 : O → Prop) (Z0 : ZX) (t : Tm) (ok : t.ok) (hs : t.sz ≤ 150) (hd : t.dep ≤ dd) (ns : List Nat) (hns : ∀ n ∈ ns, n < t.sz) (hnl : ns.length ≤ 30) (x0 x1 x2 x3 x4 x6 x9 x15 : Option O) (x11 x13 x14 : O)
    (h11 : RowX x11 (intsT (rxs t))) (h13 : RowX x13 (ns.map (dueR t))) (h14 : RowX x14 ((lostL t).map .int)) (hk : K0 (.sh (.bl true))) :
    lw_loop g__law_store.pf g__law_letters.pf g__law_take.pf g__law_bound_heads.pf g__law_amount.pf g__law_some_heads.pf g__law_wrapped.pf g__law_tree.pf g__law_term.pf g__law_reduct.pf g__law_due.pf g_redexes.pf g__law_same.pf (g__law_told dd).pf (endP K0 Z0) [x0, x1, x2, x3, x4, some (.sh (hdsT t)), x6, some (.sh (treeT t)), some (.sh t.T), x9, none, some x11, some (.sh (.lst (intsT ns))), some x13, some x14, x15] := by
  have hpos := sz_pos t
  have hrl := rxs_len t
  unfold lw_loop
  simp -implicitDefEqProofs
  refine foI ?_
  simp -implicitDefEqProofs
  refine forI (fun i ρ => ∃ (x3 x15 : Option O) (x11 x13 x14 : O), ρ = [x0, x1, x2, x3, x4, some (.sh (hdsT t)), x6, some (.sh (treeT t)), some (.sh t.T), x9, none, some x11, some (.sh (.lst (intsT ns))), some x13, some x14, x15] ∧ RowX x11 (intsT (rxs t)) ∧ RowX x13 (ns.map (dueR t)) ∧ RowX x14 ((lostL t).map .int)) ⟨x3, x15, x11, x13, x14, rfl, h11, h13, h14⟩ ?_ ?_
  · rintro i u ρ hi ⟨x3, x15, x11, x13, x14, rfl, h11, h13, h14⟩
    obtain ⟨rfl, hilt⟩ := range_at hi
    have e11 := h11.t
    obtain ⟨n1, n2⟩ := ints_same (rxs t)
    simp -implicitDefEqProofs
    refine ⟨t, rfl, ok, by omega, ?_⟩
    simp -implicitDefEqProofs [e11]
    refine ⟨.lst (intsT (rxs t)), by simp [intsT], by simpa [intsT] using n2, by simp [intsT, n1]; omega, ?_⟩
    simp -implicitDefEqProofs
    refine ⟨by omega, ?_⟩
    refine lcI ?_
    simp -implicitDefEqProofs
    refine compMap (f := toldF t) rfl (by simp [intsT]; omega) ?_ fun v hv C E hE => ?_
    · simp -implicitDefEqProofs
      rw [nameE_rowX h13 rfl]
      simp -implicitDefEqProofs
      have e1 : List.map (fun a => (toldF t a).t) (intsT ns) = ns.map (dueR t) := by
        unfold intsT
        rw [List.map_map]
        apply List.map_congr_left
        intro n hn
        obtain ⟨hd, ps, pq, lv, s, e⟩ := rows_some t (hns n hn)
        simp [toldF, dueR, toldL_in e]
      rw [e1]
      have n3 : ∀ n ∈ ns, (dueR t n).nn ≤ 8200 ∧ (dueR t n).pl = true := fun n hn => by
        obtain ⟨hd, ps, pq, lv, s, e⟩ := rows_some t (hns n hn)
        unfold dueR
        rw [nodeAt_e e]
        exact due_nn ok e
      obtain ⟨n4, n5⟩ := nns_map (dueR t) 8200 ns n3
      refine ⟨.lst (ns.map (dueR t)), rfl, by simpa using n5, by simp; omega, ?_⟩
      simp -implicitDefEqProofs
      refine lcI ?_
      simp -implicitDefEqProofs
      rw [nameE_rowX h14 rfl]
      simp -implicitDefEqProofs
      have hlo : ∀ j ∈ lostL t, toldL t j = [.str "NotThere", .int j] := fun j hj => toldL_out (by
        simp [lostL] at hj
        rcases hj with rfl | rfl | rfl | rfl | rfl | rfl <;> omega)
      refine compMap (f := toldF t) rfl (by simp [lostL]) ?_ fun v hv C E hE => ?_
      · simp -implicitDefEqProofs
        refine lcI ?_
        simp -implicitDefEqProofs
        refine compMap (f := lostF) rfl (by simp [lostL]) ?_ fun v hv C E hE => ?_
        · simp -implicitDefEqProofs
          have e2 : List.map (fun a => (toldF t (.int a)).t) (lostL t) = (lostL t).map fun j => .lst [.str "NotThere", .int j] := by
            apply List.map_congr_left
            intro j hj
            simp [toldF, hlo j hj]
          have e3 : List.map (fun a => (lostF (.int a)).t) (lostL t) = (lostL t).map fun j => .lst [.str "NotThere", .int j] := by
            apply List.map_congr_left
            intro j hj
            simp [lostF]
          rw [e2, e3]
          refine ⟨_, rfl, by simp [lostL], by simp [lostL], ?_⟩
          simp -implicitDefEqProofs
          exact ⟨_, _, _, _, _, ⟨rfl, rfl, rfl, rfl, rfl⟩, h11, .inr rfl, .inr rfl⟩
        · obtain ⟨j, hj, rfl⟩ := List.mem_map.mp hv
          simp -implicitDefEqProofs
          exact hE _ rfl
      · obtain ⟨j, hj, rfl⟩ := List.mem_map.mp hv
        simp -implicitDefEqProofs
        refine ⟨t, j, rfl, ok, by omega, hd, ?_⟩
        simp -implicitDefEqProofs
        exact hE _ rfl
    · unfold intsT at hv
      obtain ⟨n, hn, rfl⟩ := List.mem_map.mp hv
      simp -implicitDefEqProofs
      refine ⟨t, (n : Nat), rfl, ok, by omega, hd, ?_⟩
      simp -implicitDefEqProofs
      exact hE _ rfl
  · rintro ρ ⟨x3, x15, x11, x13, x14, rfl, h11, h13, h14⟩
    simp -implicitDefEqProofs
    refine ⟨t, rfl, ok, by omega, ?_⟩
    simp -implicitDefEqProofs
    obtain ⟨n1, n2⟩ := tm_nn t ok
    exact ⟨t.T, rfl, n2, by omega, hk⟩
end Rd
end TL

set_option maxHeartbeats 4000000
/-! the law -/
namespace TL
open PySem PySem.Spec PyProof.Rows L2
namespace Rd
@[simp] theorem re_sto (cells : List Int) (p n l c b s : Int) (o : O) : (sto cells p n l c b s).re o = o := rfl
@[simp] theorem un_sto (cells : List Int) (p n l c b s : Int) : (sto cells p n l c b s).un = sto cells p n l c b s := rfl
@[simp] theorem len_hdsT (t : Tm) (Q : O → Prop) : op1E lenT (hdsT t) (c := ⟨Q⟩) = Q (.sh (.int (t.sz : Nat))) := by simp [hdsT, heads_len]
def redsT (t : Tm) : List T := (List.range t.sz).map fun n => .lst ((rdh (nodeAt t n)).map Hd.t)
theorem redsT_at {t : Tm} {n : Nat} (h : n < t.sz) : (redsT t)[n]? = some (.lst ((rdh (nodeAt t n)).map Hd.t)) := by
  unfold redsT
  rw [List.getElem?_map, List.getElem?_range h]
  rfl
theorem pl_lw_dues (dd : Nat) (K0 : O → Prop) (Z0 : ZX) (t : Tm) (ok : t.ok) (hs : t.sz ≤ 150) (hd : t.dep ≤ dd) (ns : List Nat) (hns : ∀ n ∈ ns, n < t.sz) (hnl : ns.length ≤ 30 ∨ ns = List.range t.sz ∧ t.sz ≤ 30) (x0 x1 x2 x3 x4 x6 x13 x14 x15 : Option O) (x11 : O) (os : List O) (hos : O.ts os = intsT ns)
    (h11 : RowX x11 (intsT (rxs t))) (hk : K0 (.sh (.bl true))) :
    lw_dues g__law_store.pf g__law_letters.pf g__law_take.pf g__law_bound_heads.pf g__law_amount.pf g__law_some_heads.pf g__law_wrapped.pf g__law_tree.pf g__law_term.pf g__law_reduct.pf g__law_due.pf g_redexes.pf g__law_same.pf (g__law_told dd).pf (endP K0 Z0) [x0, x1, x2, x3, x4, some (.sh (hdsT t)), x6, some (.sh (treeT t)), some (.sh t.T), some (.sh (.lst (redsT t))), none, some x11, some (.lst os), x13, x14, x15] := by
  have hnl2 : ns.length ≤ 30 := by
    rcases hnl with h | ⟨rfl, h⟩
    · exact h
    · simpa using h
  unfold lw_dues
  simp -implicitDefEqProofs
  refine lcI ?_
  simp -implicitDefEqProofs [hos]
  refine compMap (f := dueF t) rfl (by simp [intsT]; omega) ?_ fun v hv C E hE => ?_
  · simp -implicitDefEqProofs
    refine pl_lw_loop dd K0 Z0 t ok hs hd ns hns hnl2 _ _ _ _ _ _ _ _ _ _ _ h11 (.inl ⟨_, rfl, ?_⟩) (.inl ⟨_, rfl, ?_⟩) hk
    · unfold intsT
      rw [O.ts_map, List.map_map, List.map_map]
      apply List.map_congr_left
      intro n hn
      simp [dueF, dueR]
    · simp [lostL]
  · unfold intsT at hv
    obtain ⟨n, hn, rfl⟩ := List.mem_map.mp hv
    obtain ⟨h, ps, pq, lv, s, e⟩ := rows_some t (hns n hn)
    simp -implicitDefEqProofs [treeT, redsT_at (hns n hn)]
    refine ⟨t, n, nodeAt t n, pq, lv, s, by simp [hdsT], ok, by omega, by rw [nodeAt_e e]; exact e, ?_⟩
    simp -implicitDefEqProofs
    exact hE _ rfl
theorem pl_lw_tail (dd : Nat) (K0 : O → Prop) (Z0 : ZX) (t : Tm) (ok : t.ok) (hs : t.sz ≤ 150) (hd : t.dep ≤ dd) (o : O) (ho : StoreOk o) (x0 x2 x3 x4 x6 : Option O) (hk : K0 (.sh (.bl true))) :
    lw_tail g__law_store.pf g__law_letters.pf g__law_take.pf g__law_bound_heads.pf g__law_amount.pf g__law_some_heads.pf g__law_wrapped.pf g__law_tree.pf g__law_term.pf g__law_reduct.pf g__law_due.pf g_redexes.pf g__law_same.pf (g__law_told dd).pf (endP K0 Z0) [x0, some o, x2, x3, x4, some (.lst (t.heads.map fun h => .sh h.t)), x6, none, none, none, none, none, none, none, none, none] := by
  have hpos := sz_pos t
  obtain ⟨cells, p, n', l, c, b, q, rfl, hp, hn⟩ := id ho
  unfold lw_tail
  simp -implicitDefEqProofs
  refine ⟨t, rfl, ok, by omega, ?_⟩
  simp -implicitDefEqProofs
  refine ⟨t, rfl, ok, by omega, ?_⟩
  simp -implicitDefEqProofs
  refine lcI ?_
  simp -implicitDefEqProofs [heads_len]
  refine ⟨by omega, ?_⟩
  refine compMap (f := rdcF t) rfl (by simp; omega) ?_ fun v hv C E hE => ?_
  · simp -implicitDefEqProofs
    refine lcI ?_
    simp -implicitDefEqProofs [heads_len]
    refine ⟨by omega, ?_⟩
    have e9 : O.ts (List.map (rdcF t) (rangeL 0 t.sz)) = redsT t := by
      unfold rangeL redsT
      rw [O.ts_map, List.map_map, List.map_map]
      apply List.map_congr_left
      intro n hn
      simp [rdcF]
    refine compI (fun i acc ρ => ∃ x9, ρ = [x0, some (sto cells p n' l c b q), x2, x3, x4, some (.sh (hdsT t)), x6, some (.sh (treeT t)), some (.sh t.T), some x9, none, none, none, none, none, none] ∧ RowX x9 (redsT t) ∧ (0 < i → x9 = .sh (.lst (redsT t))) ∧ acc = ((List.range i).filter (isR t)).map fun (n : Nat) => .sh (.int (n : Nat))) ⟨.lst (List.map (rdcF t) (rangeL 0 t.sz)), by simp [hdsT], .inl ⟨_, rfl, e9⟩, by simp, by simp⟩ ?_ ?_
    · rintro i u acc ρ hi ⟨x9, rfl, h9, _, rfl⟩
      obtain ⟨rfl, hilt⟩ := range_at hi
      have hfl : ((List.range i).filter (isR t)).length ≤ i := Nat.le_trans (List.length_filter_le _ _) (by simp)
      have hri := isR_node hilt
      have hz : rdx (nodeAt t i) = true → 0 < (rdh (nodeAt t i)).length := fun z => by
        have := sz_pos (root (nodeAt t i))
        rw [← heads_len] at this
        simpa [rdh, z] using this
      simp -implicitDefEqProofs
      rw [nameE_rowX h9 rfl]
      simp -implicitDefEqProofs [redsT_at hilt]
      rw [List.range_succ, List.filter_append]
      cases hx : rdx (nodeAt t i) with
      | true =>
        rw [hx] at hri
        have hz2 := hz hx
        simp -implicitDefEqProofs [hz2, hri]
        exact ⟨by omega, .inr rfl⟩
      | false =>
        rw [hx] at hri
        have hz2 : (rdh (nodeAt t i)).length = 0 := by simp [rdh, hx]
        simp -implicitDefEqProofs [hz2, hri]
        exact .inr rfl
    · rintro acc ρ ⟨x9, rfl, h9, h9b, rfl⟩
      simp only [range_len] at h9b ⊢
      have h9c := h9b hpos
      subst h9c
      have erx : (List.range t.sz).filter (isR t) = rxs t := rfl
      rw [erx]
      have hrl := rxs_len t
      simp -implicitDefEqProofs
      refine ⟨by omega, ?_⟩
      by_cases h30 : 30 < t.sz
      · have h30' : (30 : Int) < (t.sz : Int) := by omega
        simp -implicitDefEqProofs [h30, h30']
        refine lcI ?_
        simp -implicitDefEqProofs
        refine compI (fun i acc ρ => ∃ (o2 : O) (ks : List Nat), ρ = [x0, some o2, x2, none, x4, some (.sh (hdsT t)), x6, some (.sh (treeT t)), some (.sh t.T), some (.sh (.lst (redsT t))), none, some (.sh (.lst (intsT (rxs t)))), some (.lst (List.map O.sh (rangeL 0 t.sz))), none, none, none] ∧ StoreOk o2 ∧ acc = (ks.map fun (n : Nat) => .sh (.int (n : Nat))) ∧ ks.length = i ∧ ∀ k ∈ ks, k < t.sz) ⟨_, [], by simp [intsT], ho, rfl, rfl, by simp⟩ ?_ ?_
        · rintro i u acc ρ hi ⟨o2, ks, rfl, ho2, rfl, hkl, hks⟩
          obtain ⟨rfl, hilt⟩ := range_at hi
          obtain ⟨cells2, p2, n2, l2, c2, b2, q2, rfl, hp2, hn2⟩ := id ho2
          simp -implicitDefEqProofs
          refine ⟨ho2, _, rfl, by omega, fun k o3 ho3 h0 h1 => ?_⟩
          obtain ⟨m, rfl⟩ : ∃ m : Nat, k = m := ⟨k.toNat, by omega⟩
          simp -implicitDefEqProofs
          refine ⟨by omega, ho3, ks ++ [m], by simp, by simp [hkl], fun k hk => ?_⟩
          rcases List.mem_append.mp hk with hk | hk
          · exact hks k hk
          · simp at hk; subst hk; omega
        · rintro acc ρ ⟨o2, ks, rfl, ho2, rfl, hkl, hks⟩
          have c12 : cutL (List.map (fun (a : Nat) => T.int (a : Nat)) (rxs t)) none (some 12) = intsT ((rxs t).take 12) := by rw [show (12 : Int) = ((12 : Nat) : Int) from rfl, cutL_to, ← List.map_take]; rfl
          simp at hkl
          simp -implicitDefEqProofs [intsT]
          rw [c12]
          refine ⟨by simp [intsT]; omega, ?_⟩
          refine pl_lw_dues dd K0 Z0 t ok hs hd ((rxs t).take 12 ++ ks) (fun n hn => ?_) (.inl (by simp; omega)) _ _ _ _ _ _ _ _ _ _ _ ?_ (.inr rfl) hk
          · rcases List.mem_append.mp hn with hn | hn
            · exact rxs_lt (List.mem_of_mem_take hn)
            · exact hks n hn
          · simp [intsT]
      · have h30' : ¬ (30 : Int) < (t.sz : Int) := by omega
        simp -implicitDefEqProofs [h30, h30']
        refine pl_lw_dues dd K0 Z0 t ok hs hd (List.range t.sz) (fun n hn => by simpa using hn) (.inr ⟨rfl, by omega⟩) _ _ _ _ _ _ _ _ _ _ _ ?_ (.inl ⟨_, rfl, ?_⟩) hk
        · unfold intsT rangeL
          rw [O.ts_map, List.map_map, List.map_map]
          apply List.map_congr_left
          intro n hn
          simp
        · simp [intsT]
  · obtain ⟨n, hn, rfl⟩ := range_mem hv
    obtain ⟨h, ps, pq, lv, s, e⟩ := rows_some t hn
    simp -implicitDefEqProofs
    refine ⟨t, n, Tm.nd h ps, pq, lv, s, by simp [hdsT], ok, by omega, e, ?_⟩
    simp -implicitDefEqProofs
    have e1 : rdcF t (.int (n : Nat)) = .lst ((rdh (Tm.nd h ps)).map fun h => .sh h.t) := by simp [rdcF, nodeAt_e e]
    rw [← e1]
    simp at hE
    exact hE _ rfl
def g_law : GT := fun ts K _ => ∃ cells : List Int, ts = [.kls (cells.map .int)] ∧ K (.sh (.bl true))
mutual
theorem dep_sz : ∀ t : Tm, t.dep ≤ t.sz
  | .nd h ps => by
    have := deps_sz ps
    rw [dep_nd, sz_nd]
    omega
theorem deps_sz : ∀ ps : List Tm, Tms.dep ps ≤ Tms.sz ps
  | [] => by simp
  | p :: ps => by
    have := dep_sz p
    have := deps_sz ps
    rw [deps_cons, sz_cons]
    omega
end
theorem pl_law (dd : Nat) (hdd : 150 ≤ dd) (ts : List T) (K0 : O → Prop) (Z0 : ZX) (h : g_law ts K0 Z0) : x_law g__law_store.pf g__law_letters.pf g__law_take.pf g__law_bound_heads.pf g__law_amount.pf g__law_some_heads.pf g__law_wrapped.pf g__law_tree.pf g__law_term.pf g__law_reduct.pf g__law_due.pf g_redexes.pf g__law_same.pf (g__law_told dd).pf (endP K0 Z0) (TL.slots 16 ts) := by
  obtain ⟨cells0, rfl, hk⟩ := h
  have tail := fun (t : Tm) (ok : t.ok) (hs : t.sz ≤ 150) => pl_lw_tail dd K0 Z0 t ok hs (Nat.le_trans (dep_sz t) (Nat.le_trans hs hdd))
  change lw_all _ _ _ _ _ _ _ _ _ _ _ _ _ _ _ _
  unfold lw_all
  simp -implicitDefEqProofs
  refine ⟨cells0, rfl, fun o1 ho1 => ?_⟩
  obtain ⟨cells1, p1, n1, l1, c1, b1, q1, rfl, hp1, hn1⟩ := id ho1
  simp -implicitDefEqProofs
  refine lcI ?_
  simp -implicitDefEqProofs
  refine compI (fun i acc ρ => ∃ (o2 : O) (ns : List Str), ρ = [some (.sh (.kls (cells0.map .int))), some o2, none, none, none, none, none, none, none, none, none, none, none, none, none, none] ∧ StoreOk o2 ∧ acc = (ns.map fun s => .sh (.str s)) ∧ ns.length = i ∧ ∀ s ∈ ns, sOk s) ⟨_, [], by simp, ho1, rfl, rfl, by simp⟩ ?_ ?_
  · rintro i u acc ρ hi ⟨o2, ns, rfl, ho2, rfl, hnl, hns⟩
    obtain ⟨rfl, hilt⟩ := range_at hi
    obtain ⟨cells2, p2, n2, l2, c2, b2, q2, rfl, hp2, hn2⟩ := id ho2
    simp -implicitDefEqProofs
    refine ⟨ho2, 8, rfl, by decide, fun k o3 ho3 h0 h1 => ?_⟩
    obtain ⟨cells3, p3, n3, l3, c3, b3, q3, rfl, hp3, hn3⟩ := id ho3
    simp -implicitDefEqProofs
    refine ⟨ho3, _, rfl, by omega, by omega, fun s o4 ho4 hs => ?_⟩
    simp -implicitDefEqProofs
    refine ⟨by omega, ho4, ns ++ [s], by simp, by simp [hnl], fun z hz => ?_⟩
    rcases List.mem_append.mp hz with hz | hz
    · exact hns z hz
    · simp at hz; subst hz; exact hs
  · rintro acc ρ ⟨o2, ns, rfl, ho2, rfl, hnl, hns⟩
    obtain ⟨cells2, p2, n2, l2, c2, b2, q2, rfl, hp2, hn2⟩ := id ho2
    have hnl2 : ns.length = 2 := by simpa using hnl
    obtain ⟨s1, s2, rfl⟩ := len2 hnl2
    have hs1 := hns s1 (by simp)
    have hs2 := hns s2 (by simp)
    simp -implicitDefEqProofs
    refine ⟨ho2, 2, rfl, by decide, fun k o3 ho3 h0 h1 => ?_⟩
    obtain ⟨s3, es3, hs3⟩ : ∃ s3, atI [O.sh (.str s1), O.sh (.str s2)] k = some (.sh (.str s3)) ∧ sOk s3 := by
      rcases (show k = 0 ∨ k = 1 by omega) with rfl | rfl
      · exact ⟨s1, by simp, hs1⟩
      · exact ⟨s2, by simp, hs2⟩
    obtain ⟨cells3, p3, n3, l3, c3, b3, q3, rfl, hp3, hn3⟩ := id ho3
    simp -implicitDefEqProofs
    rw [es3]
    simp -implicitDefEqProofs
    refine ⟨ho3, 8, rfl, by decide, fun k4 o4 ho4 h40 h41 => ?_⟩
    obtain ⟨cells4, p4, n4, l4, c4, b4, q4, rfl, hp4, hn4⟩ := id ho4
    simp -implicitDefEqProofs
    refine ⟨ho4, _, rfl, by omega, by omega, fun s4 o5 ho5 hs4 => ?_⟩
    obtain ⟨cells5, p5, n5, l5, c5, b5, q5, rfl, hp5, hn5⟩ := id ho5
    simp -implicitDefEqProofs
    refine ⟨ho5, 5, rfl, by decide, fun k6 o6 ho6 h60 h61 => ?_⟩
    obtain ⟨cells6, p6, n6, l6, c6, b6, q6, rfl, hp6, hn6⟩ := id ho6
    simp -implicitDefEqProofs
    by_cases w4 : k6 = 4
    · simp -implicitDefEqProofs [w4]
      refine ⟨ho6, s1, rfl, hs1, fun r o7 ho7 okr hr => ?_⟩
      simp -implicitDefEqProofs
      exact tail r okr hr o7 ho7 _ _ _ _ _ hk
    · simp -implicitDefEqProofs [w4]
      refine ⟨ho6, 1, 10, rfl, by decide, fun k7 o7 ho7 h70 h71 => ?_⟩
      obtain ⟨cells7, p7, n7, l7, c7, b7, q7, rfl, hp7, hn7⟩ := id ho7
      simp -implicitDefEqProofs
      refine ⟨ho7, 6, rfl, by decide, fun k8 o8 ho8 h80 h81 => ?_⟩
      obtain ⟨cells8, p8, n8, l8, c8, b8, q8, rfl, hp8, hn8⟩ := id ho8
      simp -implicitDefEqProofs
      obtain ⟨sz, esz, sz1, sz2⟩ : ∃ sz : Nat, atI [T.int k7, T.int 60] (if k8 = 5 then 1 else 0) = some (.int (sz : Nat)) ∧ 1 ≤ sz ∧ sz ≤ 60 := by
        by_cases h : k8 = 5
        · exact ⟨60, by simp [h], by omega, by omega⟩
        · exact ⟨k7.toNat, by simp [h]; omega, by omega, by omega⟩
      rw [esz]
      simp -implicitDefEqProofs
      refine ⟨ho8, 2, rfl, by decide, fun k9 o9 ho9 h90 h91 => ?_⟩
      obtain ⟨cells9, p9, n9, l9, c9, b9, q9, rfl, hp9, hn9⟩ := id ho9
      simp -implicitDefEqProofs
      have hnm : strsOk [.str s1, .str s2, .str s3] := fun x hx => by
        simp at hx
        rcases hx with rfl | rfl | rfl
        · exact ⟨_, rfl, hs1⟩
        · exact ⟨_, rfl, hs2⟩
        · exact ⟨_, rfl, hs3⟩
      have hwd : strsOk [.str s1, .str s4] := fun x hx => by
        simp at hx
        rcases hx with rfl | rfl
        · exact ⟨_, rfl, hs1⟩
        · exact ⟨_, rfl, hs4⟩
      have hkd : strsOk [.str "a", .str "b07"] := fun x hx => by
        simp at hx
        rcases hx with rfl | rfl
        · exact ⟨_, rfl, sOk_lit _⟩
        · exact ⟨_, rfl, sOk_lit _⟩
      refine ⟨ho9, _, _, _, _, sz, 12, decide (k9 = 1), rfl, hnm, hwd, hwd, hkd, by simp, by simp, by simp, by simp, by simp, by omega, by omega, by omega, fun t oA hoA okt ht => ?_⟩
      obtain ⟨cellsA, pA, nA, lA, cA, bA, qA, rfl, hpA, hnA⟩ := id hoA
      simp -implicitDefEqProofs
      refine foI ?_
      simp -implicitDefEqProofs
      refine ⟨hoA, 5, rfl, by decide, fun kB oB hoB hB0 hB1 => ?_⟩
      obtain ⟨cellsB, pB, nB, lB, cB, bB, qB, rfl, hpB, hnB⟩ := id hoB
      simp -implicitDefEqProofs
      refine ⟨⟨by omega, by omega⟩, ?_⟩
      refine forI (fun i ρ => ∃ (o : O) (r : Tm) (x3 : Option O), ρ = [some (.sh (.kls (cells0.map .int))), some o, some (.sh (.lst [.str s1, .str s2, .str s3])), x3, some (.sh (.lst [.str s1, .str s4])), some (.lst (r.heads.map fun h => .sh h.t)), some (.sh (.int sz)), none, none, none, none, none, none, none, none, none] ∧ StoreOk o ∧ r.ok ∧ r.sz ≤ 60 + 7 * i) ⟨_, t, none, rfl, hoB, okt, by omega⟩ ?_ ?_
      · rintro i u ρ hi ⟨o, r, x3, rfl, ho, okr, hr⟩
        obtain ⟨rfl, hilt⟩ := range_at hi
        obtain ⟨cellsC, pC, nC, lC, cC, bC, qC, rfl, hpC, hnC⟩ := id ho
        simp -implicitDefEqProofs
        refine ⟨ho, r, _, _, rfl, okr, by omega, hnm, hwd, by simp, by simp, by simp, fun r2 o2 ho2 okr2 hr2 => ?_⟩
        simp -implicitDefEqProofs
        exact ⟨o2, r2, ⟨rfl, rfl⟩, ho2, okr2, by omega⟩
      · rintro ρ ⟨o, r, x3, rfl, ho, okr, hr⟩
        simp only [range_len] at hr
        simp -implicitDefEqProofs
        exact tail r okr (by omega) o ho _ _ _ _ _ hk
end Rd
end TL

/-! what the head tells of own exceptions and of tables, as one Bool -/
namespace TL
open PySem PySem.Spec PyProof.Rows L2
theorem andB {a b : Bool} (h : (a && b) = true) : a = true ∧ b = true := Bool.and_eq_true_iff.mp h
/-! an own exception class -/
theorem oexB_ok {K : Fr} {C : Addr} (h : oexB K C = true) : OexC K C := by
  obtain ⟨h1, h⟩ := andB h
  obtain ⟨h2, h⟩ := andB h
  obtain ⟨h3, h⟩ := andB h
  obtain ⟨h4, h5⟩ := andB h
  refine ⟨?_, He.eqO_ok h2, of_decide_eq_true h3, of_decide_eq_true h4, h5⟩
  unfold oexL at h1
  cases e : K.lookup C with
  | none => rw [e] at h1; cases h1
  | some o =>
    rw [e] at h1
    obtain ⟨oc, od, dt, sl⟩ := o
    cases oc with
    | type t =>
      cases dt with
      | cls d =>
        obtain ⟨nm, bs, mro, ns, q, hd, sn, sb, ab, col, del⟩ := d
        obtain ⟨sl⟩ := sl
        dsimp only at h1
        cases mro with
        | nil => cases h1
        | cons m0 r =>
          cases m0 with
          | ref B =>
            match sl, h1 with
            | [k0, k1, k2, k3, some (.builtin n), k5], h1 =>
              obtain ⟨a1, h1⟩ := andB h1
              obtain ⟨a2, h1⟩ := andB h1
              obtain ⟨a3, h1⟩ := andB h1
              obtain ⟨a4, h1⟩ := andB h1
              obtain ⟨a5, a6⟩ := andB h1
              have b1 := of_decide_eq_true a1
              have b2 := of_decide_eq_true a2
              have b3 := of_decide_eq_true a3
              have b4 : del = false := by
                cases del with
                | false => rfl
                | true => cases a4
              have b5 : hd = true := a5
              subst b1 b2 b3 b4 b5
              exact ⟨nm, q, ns, bs, r, sn, sb, ab, col, od, k0, k1, k2, k3, k5, rfl, a6⟩
          | _ => cases h1
      | _ => cases h1
    | _ => cases dt <;> cases h1
theorem xqB_ok {K : Fr} {D : Addr} (h : xqB K D = true) : Xq K D := by
  obtain ⟨h1, h⟩ := andB h
  obtain ⟨h2, h⟩ := andB h
  obtain ⟨h3, h⟩ := andB h
  obtain ⟨h4, h⟩ := andB h
  obtain ⟨h5, h⟩ := andB h
  obtain ⟨h6, h⟩ := andB h
  obtain ⟨h7, h⟩ := andB h
  obtain ⟨h8, h9⟩ := andB h
  exact ⟨h1, He.eqO_ok h2, He.eqO_ok h3, of_decide_eq_true h4, h5, He.eqO_ok h6, He.eqO_ok h7, of_decide_eq_true h8, of_decide_eq_true h9⟩
section
variable {K : Fr} {fs ns cs : List Str} {c n f : Str}
theorem kitC_n (h : kitC ns K c = true) (hn : n ∈ ns) : PySem.W.kitOne K (.ref (He.ga K c)) (.ref (He.ga K n)) = some (decide (c = n)) := of_decide_eq_true (List.all_eq_true.mp (andB h).1 n hn)
theorem kitC_v (h : kitC ns K c = true) : PySem.W.kitOne K (.ref (He.ga K c)) (.type "ValueError") = some true := of_decide_eq_true (andB (andB h).2).1
theorem kitC_t (h : kitC ns K c = true) : PySem.W.exmOne K (.ref (He.ga K c)) (.ref (He.ga K "Trouble")) = some true := of_decide_eq_true (andB (andB h).2).2
theorem exB_no (h : exB fs K c = true) (hf : f ∈ fs) : PySem.W.findIn K (.ref (He.ga K c)) f = some none := He.eqO_ok (List.all_eq_true.mp (andB (andB (andB (andB h).2).2).2).1 f hf)
theorem exB_oex (h : exB fs K c = true) : OexC K (He.ga K c) := oexB_ok (andB h).1
theorem exB_xq (h : exB fs K c = true) : Xq K (He.ga K c) := xqB_ok (andB (andB h).2).1
theorem exB_xf (h : exB fs K c = true) : XfC K (He.ga K c) := xfB_ok (andB (andB (andB h).2).2).1
theorem exB_ini (h : exB fs K c = true) : PySem.W.findIn K (.ref (He.ga K c)) "__init__" = some (some (.ref (He.ma K (He.ga K c) "__init__"))) ∧ PySem.W.typeIn K (.ref (He.ma K (He.ga K c) "__init__")) = some (.type "function") :=
  ⟨He.eqO_ok (andB (andB (andB (andB (andB h).2).2).2).2).1, of_decide_eq_true (andB (andB (andB (andB (andB h).2).2).2).2).2⟩
/-- the class makes exceptions with the field f -/
theorem xk_of {P : Program} {w : World} {mg : Str → Option Value} {base : Heap} {y : Str} {st : Stmt} {q : Str} {p1 p2 p3 p4 : Pos} (h : exB fs K c = true) (hf : f ∈ fs) (hm : mg c = some (.ref (He.ga K c)))
    (F : ∃ fd, FunD K "__init__" q (defArgs st) (defBody st) (defScope st) [] [] (He.ma K (He.ga K c) "__init__") fd ∧ Binds K fd ["self", y] [])
    (S : FnScope ["self", y] ["self", y] (defScope st)) (hb : defBody st = [.Assign [.Attribute (.Name "self" p1) f p2] (.Name y p3) p4])
    (hv : (defScope st).names.lookup ("self" : Str) = some .local) (hv2 : (defScope st).names.lookup y = some .local) (hd : (y == ("__debug__" : Str)) = false) (hcd : (y == ("__classdict__" : Str)) = false) : Xk P w K mg base c f := by
  obtain ⟨fd, F, B⟩ := F
  obtain ⟨i1, i2⟩ := exB_ini h
  exact ⟨hm, exB_oex h, exB_no h hf, _, fd, _, i1, i2, B, ini_ok F S hb hv hv2 hd hcd⟩
end
/-! a table of text keys -/
theorem flat1_rep {K : Fr} {t : T} {v : V} (h : flat1 t = some v) : ∀ S, Rep K S t v := by
  intro S
  cases t <;> first
    | (cases h; rfl)
    | cases h
theorem flatL_reps {K : Fr} : ∀ {ts : List T} {vs : List V}, flatL ts = some vs → ∀ S, Reps K S ts vs
  | [], vs, h, S => by cases h; rfl
  | t :: ts, vs, h, S => by
    unfold flatL at h
    cases e1 : flat1 t with
    | none => rw [e1] at h; cases h
    | some v =>
      cases e2 : flatL ts with
      | none => rw [e1, e2] at h; cases h
      | some us =>
        rw [e1, e2] at h
        cases h
        exact ⟨v, us, rfl, flat1_rep e1 S, flatL_reps e2 S⟩
theorem entB_ok {K : Fr} {t : T} {u : Value} (h : entB K t u = true) : ∃ v, RelV v u ∧ ∀ S, Rep K S t v := by
  have other : (∀ xs, t ≠ .ktp xs) → ∃ v, RelV v u ∧ ∀ S, Rep K S t v := fun hn => by
    have h2 : (match flat1 t with
      | some v => He.relB v u
      | none => false) = true := by
      unfold entB at h
      cases t <;> first
        | exact h
        | exact absurd rfl (hn _)
    cases e : flat1 t with
    | none => rw [e] at h2; cases h2
    | some v =>
      rw [e] at h2
      exact ⟨v, He.relB_ok h2, flat1_rep e⟩
  cases t with
  | ktp xs =>
    unfold entB at h
    cases u with
    | ref a =>
      dsimp only at h
      cases e : K.lookup a with
      | none => rw [e] at h; cases h
      | some o =>
        rw [e] at h
        obtain ⟨oc, od, dt, sl⟩ := o
        cases oc with
        | type c =>
          cases dt with
          | seq its n =>
            dsimp only at h
            cases ef : flatL xs with
            | none => rw [ef] at h; cases h
            | some vs =>
              rw [ef] at h
              obtain ⟨a1, h⟩ := andB h
              obtain ⟨a2, a3⟩ := andB h
              exact ⟨.ref a, rfl, fun S => ⟨a, vs, rfl, .inr ⟨_, its, n, e, congrArg Value.type (of_decide_eq_true a1), rfl, of_decide_eq_true a2, He.relAll_ok a3⟩, flatL_reps ef S⟩⟩
          | _ => cases h
        | _ => cases dt <;> cases h
    | _ => cases h
  | _ => exact other fun _ => by simp
theorem lookup_in {κ β : Type} [BEq κ] [LawfulBEq κ] : ∀ {l : List (κ × β)} {k : κ} {b : β}, l.lookup k = some b → (k, b) ∈ l
  | [], k, b, h => by cases h
  | (a, c) :: l, k, b, h => by
    rw [List.lookup_cons] at h
    cases e : (k == a) with
    | true =>
      rw [e] at h
      cases h
      rw [eq_of_beq e]
      exact List.mem_cons_self
    | false =>
      rw [e] at h
      exact List.mem_cons_of_mem _ (lookup_in h)
theorem tab_of {K : Fr} {w : World} {mg : Str → Option Value} {x : Str} {kvs : List (Str × T)} (hm : mg x = some (.ref (He.ga K x))) (hd : ∃ es n, KDict K w (He.ga K x) es n) (h : tabB kvs x K = true) : Tab K w mg x (He.ga K x) kvs := by
  refine ⟨hm, hd, fun z t hz => ?_⟩
  have h2 := List.all_eq_true.mp h _ (lookup_in hz)
  dsimp only at h2
  cases e : PySem.W.nsIn K (He.ga K x) z with
  | none => rw [e] at h2; cases h2
  | some r =>
    rw [e] at h2
    cases r with
    | none => cases h2
    | some u =>
      obtain ⟨v, h3, h4⟩ := entB_ok h2
      exact ⟨u, v, rfl, h3, h4⟩
end TL

namespace TL
open PySem PySem.Spec PyProof.Rows L2
/-! the law's def: the function object is named -/
section
variable {P : Program} {w : World} {K : PySem.W.Frag} {mg : Str → Option Value} {base : Heap} {x : Str} {st : Stmt} {N ps : List Str} {k : Nat}
theorem fnok_PT {g : GT} {fd : FuncData} (fD : FunD K x x (defArgs st) (defBody st) (defScope st) [] [] (He.ga K x) fd) (S : FnScope N ps (defScope st)) (ar : ∀ ts K0 Z0, g ts K0 Z0 → ts.length = ps.length)
    (hbody : ∀ (cdv : Value) (A : Around) (outer : List Env) (s : Shared) (H : Hp) (E : XK), Room k (cxD P w K mg base N x st cdv A outer s H E).A → Takes (cxD P w K mg base N x st cdv A outer s H E) (wD E) →
      ∃ xs, PSst (cxD P w K mg base N x st cdv A outer s H E) (wD E) (defBody st) xs ∧ ∀ ts K0 Z0, g ts K0 Z0 → xs (endP K0 Z0) (slots N.length ts)) :
    FnOk P w K mg base (L2N.CX P w) (k + 1) (He.ga K x) fd ps (spP K g.pf) := by
  refine fD.ok S (fun vs H Q E h => ?_) fun cdv A outer s H vs Q E hr h => ?_
  · obtain ⟨ts, B, Wd, os, K0, Z0, h1, ⟨rfl, h2⟩, _⟩ := sp_frz h
    have := h1.len
    simp at this
    rw [← this]
    exact ar _ _ _ h2
  · obtain ⟨xs, t, q⟩ := hbody cdv A outer s H E hr (L2N.takes_of rfl rfl rfl rfl)
    obtain ⟨ts, B, Wd, os, K0, Z0, h1, ⟨rfl, h2⟩, h3, h4⟩ := sp_frz h
    have hle : ts.length = vs.length := by have := h1.len; simpa using this
    have h5 := start_sim h1 (N.length - ts.length)
    have h6 : Sim K B Wd (slots N.length ts) (vs.map some ++ List.replicate (N.length - vs.length) none) H := by
      unfold slots
      rw [hle] at h5 ⊢
      rw [List.map_map] at h5
      exact h5
    refine ⟨_, t, B, Wd, [], [], _, _, rfl, h6, q ts K0 Z0 h2, fun ρ' σ' H' k' s' => h3 _ _ _ k' ?_, fun _ _ _ z => z.elim, fun _ _ _ z => z.elim, fun o ρ' v σ' H' k' s' => h3 _ _ _ k' ?_, fun σ' C fs ts ρ' d H' z s' => h4 C fs ts d H' z ?_⟩
    · have h7 : Sim K B Wd [] [] H' := Sim.via s' (fun i => i) (fun _ _ _ _ h => h) rfl fun i o e => by simp at e
      exact h7.push fun _ => rfl
    · refine Sim.via s' (fun i => i) (fun _ _ _ _ h => h) rfl fun i o e => ?_
      cases i with
      | zero => exact ⟨by simpa using e, fun v q => by simpa using q⟩
      | succ i => simp at e
    · refine Sim.via s' (fun i => i) (fun _ _ _ _ h => h) rfl fun i o e => ?_
      cases i with
      | zero => exact ⟨by simpa using e, fun v q => by simpa using q⟩
      | succ i => simp at e
end
/-- an exception's context, of any world -/
def CXA (P : Program) : CXT := fun outer H s E u s' => ∃ w, L2N.CX P w outer H s E u s'
theorem cxa {P : Program} {w : World} {K : PySem.W.Frag} {mg : Str → Option Value} {base : Heap} {k : Nat} {f : Addr} {fd : FuncData} {ps : List Str} {sp : Sp} (F : FnOk P w K mg base (L2N.CX P w) k f fd ps sp) : FnOk P w K mg base (CXA P) k f fd ps sp :=
  ⟨F.len, fun A outer s H args us vs Q E r e b v q => codeAny_mono (F.run A outer s H args us vs Q E r e b v q) fun r s' z => by
    cases r with
    | ok u => cases u <;> exact z
    | error e => exact ⟨w, z⟩⟩
theorem cxa_no {P : Program} {H : Hp} {s : Shared} {e : Value} {s' : Shared} (h : CXA P [] H s (fun _ _ _ => False) e s') : False := by
  obtain ⟨w, a, B, H', cls, d, _, _, _, _, _, _, _, z⟩ := h
  exact z
theorem reps_cells {K : PySem.W.Frag} {S : Hp} : ∀ ns : List Int, Reps K S (ns.map .int) (ns.map V.int)
  | [] => rfl
  | n :: ns => ⟨_, _, rfl, rfl, reps_cells ns⟩
theorem sim_script {K : PySem.W.Frag} {H : Hp} {a : Addr} {ns : List Int} (hS : SqL K H a (ns.map V.int)) : Sim K H (fun _ => none) [some (.sh (.kls (ns.map .int)))] [some (.ref a)] H := by
  refine ⟨H, fun _ => [], Same.refl _, Same.refl _, fun a o e => (by cases e), rfl, fun i o e => ?_, fun _ => List.nodup_nil, fun _ _ _ _ q => (by cases q), fun _ _ q => (by cases q), fun _ _ q => (by cases q), fun _ q => absurd rfl q, fun _ _ q => (by cases q)⟩
  cases i with
  | zero =>
    simp at e
    subst e
    exact ⟨.ref a, rfl, rfl, a, _, rfl, hS, reps_cells ns⟩
  | succ i => simp at e
/-- the law's promise at a script -/
theorem law_sp {K : PySem.W.Frag} {g : GT} {H : Hp} {a : Addr} {ns : List Int} (hS : SqL K H a (ns.map V.int)) (hg : ∀ K0 Z0, K0 (.sh (.bl true)) → g [.kls (ns.map .int)] K0 Z0) : spP K g.pf [.ref a] H (fun v _ => v = .bl true) fun _ _ _ => False := by
  refine ⟨H, fun _ => none, [.sh (.kls (ns.map .int))], fun o => o = .sh (.bl true), fun _ _ _ => False, sim_script hS, hg _ _ rfl, fun o v H' ko so => ?_, fun _ _ _ _ _ z => z.elim⟩
  subst ko
  obtain ⟨S, fp, m⟩ := so
  obtain ⟨v', e1, e2⟩ := m.own 0 _ rfl
  cases e1
  exact e2.2
end TL

namespace TL
open PySem PySem.Spec PyProof.Rows L2
namespace Rd
abbrev tstK (K : PySem.W.Frag) : Addr → Option Bool := fun C => PySem.W.exmOne K (.ref C) (.ref (He.ga K "Trouble"))
abbrev kitK (K : PySem.W.Frag) : Addr → Str → Option Bool := fun C n => PySem.W.kitOne K (.ref C) (.ref (He.ga K n))
abbrev kitVK (K : PySem.W.Frag) : Addr → Option Bool := fun C => PySem.W.kitOne K (.ref C) (.type "ValueError")
theorem flag_cls : ∀ n ∈ flagN, n ∈ clsN := by decide +kernel
theorem excok_of {K : PySem.W.Frag} {c : Str} {i : Nat} (hc : c ∈ clsN) (h : kitC clsN K c = true) (hT : ∀ k : Fin 15, decide (c = flagN[k.val]'k.isLt) = decide (k.val = i)) : ExcOk (He.ga K) (csK K clsN) (tstK K) (kitK K) (kitVK K) c i := by
  refine ⟨⟨c, hc, rfl⟩, kitC_t h, fun k n hk => ?_, kitC_v h⟩
  obtain ⟨h1, h2⟩ := List.getElem?_eq_some_iff.mp hk
  have hm : n ∈ clsN := flag_cls n (by rw [← h2]; exact List.getElem_mem _)
  subst h2
  exact (kitC_n h hm).trans (congrArg some (hT ⟨k, h1⟩))
theorem flag5 : ∀ k : Fin 15, decide (("NotThere" : Str) = flagN[k.val]'k.isLt) = decide (k.val = 5) := by decide +kernel
theorem flag6 : ∀ k : Fin 15, decide (("TooDeep" : Str) = flagN[k.val]'k.isLt) = decide (k.val = 6) := by decide +kernel
theorem flag7 : ∀ k : Fin 15, decide (("TooBig" : Str) = flagN[k.val]'k.isLt) = decide (k.val = 7) := by decide +kernel
/-- what the law's suites ask of the three classes -/
structure Kx (K : PySem.W.Frag) : Prop where
  e5 : ExcOk (He.ga K) (csK K clsN) (tstK K) (kitK K) (kitVK K) "NotThere" 5
  e6 : ExcOk (He.ga K) (csK K clsN) (tstK K) (kitK K) (kitVK K) "TooDeep" 6
  e7 : ExcOk (He.ga K) (csK K clsN) (tstK K) (kitK K) (kitVK K) "TooBig" 7
theorem kx_of {K : PySem.W.Frag} (h : ∀ n ∈ (["NotThere", "TooDeep", "TooBig"] : List Str), kitC clsN K n = true) : Kx K :=
  ⟨excok_of (by decide +kernel) (h _ (by simp)) flag5, excok_of (by decide +kernel) (h _ (by simp)) flag6, excok_of (by decide +kernel) (h _ (by simp)) flag7⟩
theorem swapped_0 (ts : List T) (K0 : O → Prop) (Z0 : ZX) (h : g_swapped 0 ts K0 Z0) : False := by
  obtain ⟨t, c, x, _, _, _, _, hd, _⟩ := h
  have := dep_pos t
  omega
end Rd
end TL

set_option maxHeartbeats 4000000
namespace TL
open PySem PySem.Spec PyProof.Rows L2
namespace Rd
def top (i : Nat) : Stmt := PySem.Challenge.pw_betweenkinds_k12_redexes_reducts.main.body.getD i (.Pass ⟨0, 0, 0, 0⟩)
abbrev f_parts_of : Stmt := top 20
abbrev f_rebuilt : Stmt := top 21
abbrev f_walk : Stmt := top 22
abbrev f_binder_in : Stmt := top 23
abbrev f_is_free : Stmt := top 24
abbrev f_first_free : Stmt := top 25
abbrev f_measure : Stmt := top 26
abbrev f_swap_measure : Stmt := top 27
abbrev f_swapped : Stmt := top 28
abbrev f_refuse_great : Stmt := top 29
abbrev f_child_slots : Stmt := top 34
abbrev f_node_rows : Stmt := top 35
abbrev f_rows_with : Stmt := top 36
abbrev f_node_count : Stmt := top 37
abbrev f_term_depth : Stmt := top 38
abbrev f_replaced_depth : Stmt := top 39
abbrev f_with_term : Stmt := top 40
abbrev f_is_redex : Stmt := top 42
abbrev f_redexes : Stmt := top 43
abbrev f_reduced_root : Stmt := top 44
abbrev f_reduced_measure : Stmt := top 45
abbrev f_reduced_at : Stmt := top 46
abbrev f__law_mixed : Stmt := top 48
abbrev f__law_store : Stmt := top 49
abbrev f__law_advance : Stmt := top 50
abbrev f__law_take : Stmt := top 51
abbrev f__law_pick : Stmt := top 52
abbrev f__law_amount : Stmt := top 53
abbrev f__law_letters : Stmt := top 54
abbrev f__law_leaf : Stmt := top 55
abbrev f__law_form : Stmt := top 56
abbrev f__law_ground : Stmt := top 57
abbrev f__law_same : Stmt := top 58
abbrev f__law_arity : Stmt := top 59
abbrev f__law_term : Stmt := top 60
abbrev f__law_end_head : Stmt := top 61
abbrev f__law_some_heads : Stmt := top 62
abbrev f__law_tree : Stmt := top 63
abbrev f__law_binder : Stmt := top 64
abbrev f__law_chain : Stmt := top 65
abbrev f__law_closed : Stmt := top 66
abbrev f__law_reduct : Stmt := top 67
abbrev f__law_wrapped : Stmt := top 68
abbrev f__law_bound_heads : Stmt := top 69
abbrev f__law_told : Stmt := top 70
abbrev f__law_due : Stmt := top 71
abbrev f_law : Stmt := top 72
structure Md (P : Program) (w : World) (K : PySem.W.Frag) (mg : Str → Option Value) (base : Heap) : Prop where
  ValueError : mg "ValueError" = none
  abs : mg "abs" = none
  any : mg "any" = none
  bool : mg "bool" = none
  enumerate : mg "enumerate" = none
  int : mg "int" = none
  isinstance : mg "isinstance" = none
  len : mg "len" = none
  list : mg "list" = none
  max : mg "max" = none
  range : mg "range" = none
  str : mg "str" = none
  tuple : mg "tuple" = none
  MOST_DEEP : ∃ u, mg "MOST_DEEP" = some u ∧ RelV (.int 40) u
  MOST_NODES : ∃ u, mg "MOST_NODES" = some u ∧ RelV (.int 300) u
  DEEPEST : ∃ u, mg "DEEPEST" = some u ∧ RelV (.int 40) u
  LARGEST : ∃ u, mg "LARGEST" = some u ∧ RelV (.int 300) u
  LAYOUT : ∃ d, Tab K w mg "LAYOUT" d kvs_LAYOUT
  c_Trouble : mg "Trouble" = some (.ref (He.ga K "Trouble"))
  c_BadText : mg "BadText" = some (.ref (He.ga K "BadText"))
  k_BadText : Xk P w K mg base "BadText" "at"
  c_UnknownName : mg "UnknownName" = some (.ref (He.ga K "UnknownName"))
  k_UnknownName : Xk P w K mg base "UnknownName" "name"
  c_Twice : mg "Twice" = some (.ref (He.ga K "Twice"))
  k_Twice : Xk P w K mg base "Twice" "name"
  c_Circle : mg "Circle" = some (.ref (He.ga K "Circle"))
  c_BadRow : mg "BadRow" = some (.ref (He.ga K "BadRow"))
  k_BadRow : Xk P w K mg base "BadRow" "number"
  c_NotThere : mg "NotThere" = some (.ref (He.ga K "NotThere"))
  k_NotThere : Xk P w K mg base "NotThere" "number"
  c_TooDeep : mg "TooDeep" = some (.ref (He.ga K "TooDeep"))
  k_TooDeep : Xk P w K mg base "TooDeep" "limit"
  c_TooBig : mg "TooBig" = some (.ref (He.ga K "TooBig"))
  k_TooBig : Xk P w K mg base "TooBig" "limit"
  c_NoMeaning : mg "NoMeaning" = some (.ref (He.ga K "NoMeaning"))
  k_NoMeaning : Xk P w K mg base "NoMeaning" "name"
  c_NoSolution : mg "NoSolution" = some (.ref (He.ga K "NoSolution"))
  k_NoSolution : Xk P w K mg base "NoSolution" "word"
  c_Rough : mg "Rough" = some (.ref (He.ga K "Rough"))
  k_Rough : Xk P w K mg base "Rough" "kind"
  c_TooWide : mg "TooWide" = some (.ref (He.ga K "TooWide"))
  k_TooWide : Xk P w K mg base "TooWide" "limit"
  c_InUse : mg "InUse" = some (.ref (He.ga K "InUse"))
  k_InUse : Xk P w K mg base "InUse" "name"
  c_Stuck : mg "Stuck" = some (.ref (He.ga K "Stuck"))
  k_Stuck : Xk P w K mg base "Stuck" "node"
  c_TooLong : mg "TooLong" = some (.ref (He.ga K "TooLong"))
  k_TooLong : Xk P w K mg base "TooLong" "limit"
  xq : ∀ C, csK K clsN C → Xq K C
  xf : ∀ C, csK K clsN C → XfC K C
  xn : ∀ C, csK K clsN C → ∀ f, f ∈ fldN → PySem.W.findIn K (.ref C) f = some none
section
variable {P : Program} {w : World} {K : PySem.W.Frag} {mg : Str → Option Value} {base : Heap}
theorem sc_parts_of : FnScope ["term", "word"] ["term"] (defScope f_parts_of) := ⟨rfl, rfl, rfl, by decide +kernel, rfl, by decide +kernel, by decide +kernel⟩
theorem t_parts_of {k : Nat} (M : Md P w K mg base) {cdv : Value} {A : Around} {outer : List Env} {s : Shared} {H : Hp} {E : XK} (hr : Room k (cxD P w K mg base ["term", "word"] "parts_of" f_parts_of cdv A outer s H E).A) (tk : Takes (cxD P w K mg base ["term", "word"] "parts_of" f_parts_of cdv A outer s H E) (wD E)) :
    PSst (cxD P w K mg base ["term", "word"] "parts_of" f_parts_of cdv A outer s H E) (wD E) (defBody f_parts_of) (x_parts_of) := by
  have hu : (cxD P w K mg base ["term", "word"] "parts_of" f_parts_of cdv A outer s H E).A.units + 65 < cLine := by have := hr.un; omega
  have hu4 : (cxD P w K mg base ["term", "word"] "parts_of" f_parts_of cdv A outer s H E).A.units + 64 < cLine := by have := hr.un; omega
  exact pss_cons (ps_set 1 sc_parts_of.nd (pe_ix ix_seq ixT_ok (pe_name 0) (pe_int) (fun _ _ => rfl))) (pss_cons (ps_if (pt_cmp (op_inT hu) inT_ok (pe_name 1) (pe_tup (pa_cons (pe_str) (pa_cons (pe_str) (pa_cons (pe_str) (pa_cons (pe_str) (pa_nil)))))) (by rfl)) (pss_one (ps_ret (pe_tup (pa_nil)))) (pss_nil)) (pss_cons (ps_if (pt_cmp (op_eqD hu4) eqT_ok (pe_name 1) (pe_str) (by rfl)) (pss_one (ps_ret (pe_tup (pa_cons (pe_ix ix_seq ixT_ok (pe_name 0) (pe_int) (fun _ _ => rfl)) (pa_nil))))) (pss_nil)) (pss_cons (ps_if (pt_cmp (op_inT hu) inT_ok (pe_name 1) (pe_tup (pa_cons (pe_str) (pa_cons (pe_str) (pa_nil)))) (by rfl)) (pss_one (ps_ret (pe_slice (pe_name 0) (po_some (pe_int)) (po_none)))) (pss_nil)) (pss_one (ps_ret (pe_slice (pe_name 0) (po_some (pe_int)) (po_none)))))))
theorem sc_rebuilt : FnScope ["term", "parts", "word"] ["term", "parts"] (defScope f_rebuilt) := ⟨rfl, rfl, rfl, by decide +kernel, rfl, by decide +kernel, by decide +kernel⟩
theorem t_rebuilt {k : Nat} (M : Md P w K mg base) {cdv : Value} {A : Around} {outer : List Env} {s : Shared} {H : Hp} {E : XK} (hr : Room k (cxD P w K mg base ["term", "parts", "word"] "rebuilt" f_rebuilt cdv A outer s H E).A) (tk : Takes (cxD P w K mg base ["term", "parts", "word"] "rebuilt" f_rebuilt cdv A outer s H E) (wD E)) :
    PSst (cxD P w K mg base ["term", "parts", "word"] "rebuilt" f_rebuilt cdv A outer s H E) (wD E) (defBody f_rebuilt) (x_rebuilt) := by
  have hu : (cxD P w K mg base ["term", "parts", "word"] "rebuilt" f_rebuilt cdv A outer s H E).A.units + 65 < cLine := by have := hr.un; omega
  have hu4 : (cxD P w K mg base ["term", "parts", "word"] "rebuilt" f_rebuilt cdv A outer s H E).A.units + 64 < cLine := by have := hr.un; omega
  exact pss_cons (ps_set 2 sc_rebuilt.nd (pe_ix ix_seq ixT_ok (pe_name 0) (pe_int) (fun _ _ => rfl))) (pss_cons (ps_if (pt_not (pt_tru (pe_name 1))) (pss_one (ps_ret (pe_name 0))) (pss_nil)) (pss_cons (ps_if (pt_cmp (op_eqD hu4) eqT_ok (pe_name 2) (pe_str) (by rfl)) (pss_one (ps_ret (pe_tup (pa_cons (pe_name 2) (pa_cons (pe_ix ix_seq ixT_ok (pe_name 1) (pe_int) (fun _ _ => rfl)) (pa_cons (pe_ix ix_seq ixT_ok (pe_name 0) (pe_int) (fun _ _ => rfl)) (pa_nil))))))) (pss_nil)) (pss_cons (ps_if (pt_cmp (op_inT hu) inT_ok (pe_name 2) (pe_tup (pa_cons (pe_str) (pa_cons (pe_str) (pa_nil)))) (by rfl)) (pss_one (ps_ret (pe_bin op_addT addT_ok (pe_tup (pa_cons (pe_name 2) (pa_cons (pe_ix ix_seq ixT_ok (pe_name 0) (pe_int) (fun _ _ => rfl)) (pa_nil)))) (pe_name 1)))) (pss_nil)) (pss_one (ps_ret (pe_bin op_addT addT_ok (pe_tup (pa_cons (pe_name 2) (pa_nil))) (pe_name 1)))))))
theorem sc_walk : FnScope ["term", "rows", "stack", "here", "level", "scope", "inner", "part"] ["term"] (defScope f_walk) := ⟨rfl, rfl, rfl, by decide +kernel, rfl, by decide +kernel, by decide +kernel⟩
theorem t_walk {k : Nat} (M : Md P w K mg base) {k_parts_of : Nat} {g_parts_of : PF} (F_parts_of : Fn1 P w K mg base k_parts_of "parts_of" ["term"] (spP K g_parts_of)) (hk_parts_of : k_parts_of ≤ k) {cdv : Value} {A : Around} {outer : List Env} {s : Shared} {H : Hp} {E : XK} (hr : Room k (cxD P w K mg base ["term", "rows", "stack", "here", "level", "scope", "inner", "part"] "walk" f_walk cdv A outer s H E).A) (tk : Takes (cxD P w K mg base ["term", "rows", "stack", "here", "level", "scope", "inner", "part"] "walk" f_walk cdv A outer s H E) (wD E)) :
    PSst (cxD P w K mg base ["term", "rows", "stack", "here", "level", "scope", "inner", "part"] "walk" f_walk cdv A outer s H E) (wD E) (defBody f_walk) (x_walk g_parts_of) := by
  have hu : (cxD P w K mg base ["term", "rows", "stack", "here", "level", "scope", "inner", "part"] "walk" f_walk cdv A outer s H E).A.units + 65 < cLine := by have := hr.un; omega
  have hu4 : (cxD P w K mg base ["term", "rows", "stack", "here", "level", "scope", "inner", "part"] "walk" f_walk cdv A outer s H E).A.units + 64 < cLine := by have := hr.un; omega
  exact pss_cons (ps_set 1 sc_walk.nd (pe_lst (pa_nil))) (pss_cons (ps_set 2 sc_walk.nd (pe_lst (pa_cons (pe_tup (pa_cons (pe_name 0) (pa_cons (pe_int) (pa_cons (pe_non) (pa_nil))))) (pa_nil)))) (pss_cons (ps_while (passes_of rfl) (pt_bor (pt_tru (pe_name 2))) (pss_cons (ps_asg (pe_pop 2) (pg_tup rfl (pgs_cons (pg_name 3 sc_walk.nd) (pgs_cons (pg_name 4 sc_walk.nd) (pgs_cons (pg_name 5 sc_walk.nd) (pgs_nil)))))) (pss_cons (ps_set 6 sc_walk.nd (pe_name 5)) (pss_cons (ps_if (pt_cmp (op_eqD hu4) eqT_ok (pe_ix ix_seq ixT_ok (pe_name 3) (pe_int) (fun _ _ => rfl)) (pe_str) (by rfl)) (pss_one (ps_set 6 sc_walk.nd (pe_tup (pa_cons (pe_ix ix_seq ixT_ok (pe_name 3) (pe_int) (fun _ _ => rfl)) (pa_cons (pe_bor (pe_callB call_lenT lenT_ok rfl M.len bt_len (pa_cons (pe_name 1) (pa_nil)))) (pa_cons (pe_name 5) (pa_nil))))))) (pss_nil)) (pss_cons (ps_expr (pe_app 1 (pa_cons (pe_tup (pa_cons (pe_name 3) (pa_cons (pe_name 4) (pa_cons (pe_name 5) (pa_nil))))) (pa_nil)))) (pss_one (ps_expr (pe_ext 2 (pa_cons (pe_lc (own := [("part", 7)]) rfl sc_walk.nd (pi_seq (pet_revA (pe_call F_parts_of (hr.mono hk_parts_of) tk rfl (pa_cons (pe_name 3) (pa_nil))))) (show BlkOk ["term", "rows", "stack", "here", "level", "scope", "inner", "part"] (defScope f_walk) _ _ from ⟨rfl, by decide +kernel, by decide +kernel, by decide +kernel, by decide +kernel⟩) (by decide) (fun _ _ _ _ _ => pg_name 7 sc_walk.nd) (fun _ _ _ _ _ => pts_nil) (fun _ _ _ _ _ => pe_tup (pa_cons (pe_name 7) (pa_cons (pe_bin op_addT addT_ok (pe_name 4) (pe_int)) (pa_cons (pe_name 6) (pa_nil)))))) (pa_nil)))))))))) (pss_one (ps_ret (pe_mov 1)))))
theorem sc_binder_in : FnScope ["scope", "name"] ["scope", "name"] (defScope f_binder_in) := ⟨rfl, rfl, rfl, by decide +kernel, rfl, by decide +kernel, by decide +kernel⟩
theorem t_binder_in {k : Nat} (M : Md P w K mg base) {cdv : Value} {A : Around} {outer : List Env} {s : Shared} {H : Hp} {E : XK} (hr : Room k (cxD P w K mg base ["scope", "name"] "binder_in" f_binder_in cdv A outer s H E).A) (tk : Takes (cxD P w K mg base ["scope", "name"] "binder_in" f_binder_in cdv A outer s H E) (wD E)) :
    PSst (cxD P w K mg base ["scope", "name"] "binder_in" f_binder_in cdv A outer s H E) (wD E) (defBody f_binder_in) (x_binder_in) := by
  have hu : (cxD P w K mg base ["scope", "name"] "binder_in" f_binder_in cdv A outer s H E).A.units + 65 < cLine := by have := hr.un; omega
  have hu4 : (cxD P w K mg base ["scope", "name"] "binder_in" f_binder_in cdv A outer s H E).A.units + 64 < cLine := by have := hr.un; omega
  exact pss_cons (ps_while (passes_of rfl) (pt_cmp op_notN notNT_ok (pe_name 0) (pe_non) (by rfl)) (pss_cons (ps_if (pt_cmp (op_eqD hu4) eqT_ok (pe_ix ix_seq ixT_ok (pe_name 0) (pe_int) (fun _ _ => rfl)) (pe_name 1) (by rfl)) (pss_one (ps_ret (pe_ix ix_seq ixT_ok (pe_name 0) (pe_int) (fun _ _ => rfl)))) (pss_nil)) (pss_one (ps_set 0 sc_binder_in.nd (pe_ix ix_seq ixT_ok (pe_name 0) (pe_int) (fun _ _ => rfl)))))) (pss_one (ps_ret (pe_non)))
theorem sc_is_free : FnScope ["row"] ["row"] (defScope f_is_free) := ⟨rfl, rfl, rfl, by decide +kernel, rfl, by decide +kernel, by decide +kernel⟩
theorem t_is_free {k : Nat} (M : Md P w K mg base) {k_binder_in : Nat} {g_binder_in : PF} (F_binder_in : Fn1 P w K mg base k_binder_in "binder_in" ["scope", "name"] (spP K g_binder_in)) (hk_binder_in : k_binder_in ≤ k) {cdv : Value} {A : Around} {outer : List Env} {s : Shared} {H : Hp} {E : XK} (hr : Room k (cxD P w K mg base ["row"] "is_free" f_is_free cdv A outer s H E).A) (tk : Takes (cxD P w K mg base ["row"] "is_free" f_is_free cdv A outer s H E) (wD E)) :
    PSst (cxD P w K mg base ["row"] "is_free" f_is_free cdv A outer s H E) (wD E) (defBody f_is_free) (x_is_free g_binder_in) := by
  have hu : (cxD P w K mg base ["row"] "is_free" f_is_free cdv A outer s H E).A.units + 65 < cLine := by have := hr.un; omega
  have hu4 : (cxD P w K mg base ["row"] "is_free" f_is_free cdv A outer s H E).A.units + 64 < cLine := by have := hr.un; omega
  exact pss_one (ps_ret (pe_andV (pe_cmp (op_eqD hu4) eqT_ok (pe_ix ix_seq ixT_ok (pe_ix ix_seq ixT_ok (pe_name 0) (pe_int) (fun _ _ => rfl)) (pe_int) (fun _ _ => rfl)) (pe_str) (by rfl)) (pe_oneV (pe_cmp op_isN isNT_ok (pe_call F_binder_in (hr.mono hk_binder_in) tk rfl (pa_cons (pe_ix ix_seq ixT_ok (pe_name 0) (pe_int) (fun _ _ => rfl)) (pa_cons (pe_ix ix_seq ixT_ok (pe_ix ix_seq ixT_ok (pe_name 0) (pe_int) (fun _ _ => rfl)) (pe_int) (fun _ _ => rfl)) (pa_nil)))) (pe_non) (by rfl)))))
theorem sc_first_free : FnScope ["term", "row"] ["term"] (defScope f_first_free) := ⟨rfl, rfl, rfl, by decide +kernel, rfl, by decide +kernel, by decide +kernel⟩
theorem t_first_free {k : Nat} (M : Md P w K mg base) {k_walk : Nat} {g_walk : PF} (F_walk : Fn1 P w K mg base k_walk "walk" ["term"] (spP K g_walk)) (hk_walk : k_walk ≤ k) {k_is_free : Nat} {g_is_free : PF} (F_is_free : Fn1 P w K mg base k_is_free "is_free" ["row"] (spP K g_is_free)) (hk_is_free : k_is_free ≤ k) {cdv : Value} {A : Around} {outer : List Env} {s : Shared} {H : Hp} {E : XK} (hr : Room k (cxD P w K mg base ["term", "row"] "first_free" f_first_free cdv A outer s H E).A) (tk : Takes (cxD P w K mg base ["term", "row"] "first_free" f_first_free cdv A outer s H E) (wD E)) :
    PSst (cxD P w K mg base ["term", "row"] "first_free" f_first_free cdv A outer s H E) (wD E) (defBody f_first_free) (x_first_free g_walk g_is_free) := by
  have hu : (cxD P w K mg base ["term", "row"] "first_free" f_first_free cdv A outer s H E).A.units + 65 < cLine := by have := hr.un; omega
  have hu4 : (cxD P w K mg base ["term", "row"] "first_free" f_first_free cdv A outer s H E).A.units + 64 < cLine := by have := hr.un; omega
  exact pss_cons (ps_for (passes_of rfl) rfl (pi_seq (pe_call F_walk (hr.mono hk_walk) tk rfl (pa_cons (pe_name 0) (pa_nil)))) (pg_name 1 sc_first_free.nd) (pss_one (ps_if (pt_tru (pe_call F_is_free (hr.mono hk_is_free) tk rfl (pa_cons (pe_name 1) (pa_nil)))) (pss_one (ps_ret (pe_ix ix_seq ixT_ok (pe_ix ix_seq ixT_ok (pe_name 1) (pe_int) (fun _ _ => rfl)) (pe_int) (fun _ _ => rfl)))) (pss_nil)))) (pss_one (ps_ret (pe_non)))
theorem sc_measure : FnScope ["rows", "deep", "row"] ["rows"] (defScope f_measure) := ⟨rfl, rfl, rfl, by decide +kernel, rfl, by decide +kernel, by decide +kernel⟩
theorem t_measure {k : Nat} (M : Md P w K mg base) {cdv : Value} {A : Around} {outer : List Env} {s : Shared} {H : Hp} {E : XK} (hr : Room k (cxD P w K mg base ["rows", "deep", "row"] "measure" f_measure cdv A outer s H E).A) (tk : Takes (cxD P w K mg base ["rows", "deep", "row"] "measure" f_measure cdv A outer s H E) (wD E)) :
    PSst (cxD P w K mg base ["rows", "deep", "row"] "measure" f_measure cdv A outer s H E) (wD E) (defBody f_measure) (x_measure) := by
  have hu : (cxD P w K mg base ["rows", "deep", "row"] "measure" f_measure cdv A outer s H E).A.units + 65 < cLine := by have := hr.un; omega
  have hu4 : (cxD P w K mg base ["rows", "deep", "row"] "measure" f_measure cdv A outer s H E).A.units + 64 < cLine := by have := hr.un; omega
  exact pss_cons (ps_set 1 sc_measure.nd (pe_int)) (pss_cons (ps_for (passes_of rfl) rfl (pi_seq (pe_name 0)) (pg_name 2 sc_measure.nd) (pss_one (ps_set 1 sc_measure.nd (pe_callB (call_max2 rfl) maxT_ok rfl M.max bt_max (pa_cons (pe_name 1) (pa_cons (pe_ix ix_seq ixT_ok (pe_name 2) (pe_int) (fun _ _ => rfl)) (pa_nil))))))) (pss_one (ps_ret (pe_tup (pa_cons (pe_name 1) (pa_cons (pe_callB call_lenT lenT_ok rfl M.len bt_len (pa_cons (pe_name 0) (pa_nil))) (pa_nil)))))))
theorem sc_swap_measure : FnScope ["term", "name", "closed", "low", "many", "deep", "size", "row"] ["term", "name", "closed"] (defScope f_swap_measure) := ⟨rfl, rfl, rfl, by decide +kernel, rfl, by decide +kernel, by decide +kernel⟩
theorem t_swap_measure {k : Nat} (M : Md P w K mg base) {k_measure : Nat} {g_measure : PF} (F_measure : Fn1 P w K mg base k_measure "measure" ["rows"] (spP K g_measure)) (hk_measure : k_measure ≤ k) {k_walk : Nat} {g_walk : PF} (F_walk : Fn1 P w K mg base k_walk "walk" ["term"] (spP K g_walk)) (hk_walk : k_walk ≤ k) {k_is_free : Nat} {g_is_free : PF} (F_is_free : Fn1 P w K mg base k_is_free "is_free" ["row"] (spP K g_is_free)) (hk_is_free : k_is_free ≤ k) {cdv : Value} {A : Around} {outer : List Env} {s : Shared} {H : Hp} {E : XK} (hr : Room k (cxD P w K mg base ["term", "name", "closed", "low", "many", "deep", "size", "row"] "swap_measure" f_swap_measure cdv A outer s H E).A) (tk : Takes (cxD P w K mg base ["term", "name", "closed", "low", "many", "deep", "size", "row"] "swap_measure" f_swap_measure cdv A outer s H E) (wD E)) :
    PSst (cxD P w K mg base ["term", "name", "closed", "low", "many", "deep", "size", "row"] "swap_measure" f_swap_measure cdv A outer s H E) (wD E) (defBody f_swap_measure) (x_swap_measure g_measure g_walk g_is_free) := by
  have hu : (cxD P w K mg base ["term", "name", "closed", "low", "many", "deep", "size", "row"] "swap_measure" f_swap_measure cdv A outer s H E).A.units + 65 < cLine := by have := hr.un; omega
  have hu4 : (cxD P w K mg base ["term", "name", "closed", "low", "many", "deep", "size", "row"] "swap_measure" f_swap_measure cdv A outer s H E).A.units + 64 < cLine := by have := hr.un; omega
  exact pss_cons (ps_asg (pe_call F_measure (hr.mono hk_measure) tk rfl (pa_cons (pe_call F_walk (hr.mono hk_walk) tk rfl (pa_cons (pe_name 2) (pa_nil))) (pa_nil))) (pg_tup rfl (pgs_cons (pg_name 3 sc_swap_measure.nd) (pgs_cons (pg_name 4 sc_swap_measure.nd) (pgs_nil))))) (pss_cons (ps_set 5 sc_swap_measure.nd (pe_int)) (pss_cons (ps_set 6 sc_swap_measure.nd (pe_int)) (pss_cons (ps_for (passes_of rfl) rfl (pi_seq (pe_call F_walk (hr.mono hk_walk) tk rfl (pa_cons (pe_name 0) (pa_nil)))) (pg_name 7 sc_swap_measure.nd) (pss_one (ps_if (PWt.pt (pw_and (pt_cmp (op_eqD hu4) eqT_ok (pe_ix ix_seq ixT_ok (pe_ix ix_seq ixT_ok (pe_name 7) (pe_int) (fun _ _ => rfl)) (pe_int) (fun _ _ => rfl)) (pe_str) (by rfl)) (pw_and (pt_cmp (op_eqD hu4) eqT_ok (pe_ix ix_seq ixT_ok (pe_ix ix_seq ixT_ok (pe_name 7) (pe_int) (fun _ _ => rfl)) (pe_int) (fun _ _ => rfl)) (pe_name 1) (by rfl)) (pw_and1 (pt_tru (pe_call F_is_free (hr.mono hk_is_free) tk rfl (pa_cons (pe_name 7) (pa_nil)))))))) (pss_cons (ps_set 5 sc_swap_measure.nd (pe_callB (call_max2 rfl) maxT_ok rfl M.max bt_max (pa_cons (pe_name 5) (pa_cons (pe_bin op_addT addT_ok (pe_bin op_sub1 subT_ok (pe_ix ix_seq ixT_ok (pe_name 7) (pe_int) (fun _ _ => rfl)) (pe_int)) (pe_name 3)) (pa_nil))))) (pss_one (ps_set 6 sc_swap_measure.nd (pe_bin op_addT addT_ok (pe_name 6) (pe_name 4))))) (pss_cons (ps_set 5 sc_swap_measure.nd (pe_callB (call_max2 rfl) maxT_ok rfl M.max bt_max (pa_cons (pe_name 5) (pa_cons (pe_ix ix_seq ixT_ok (pe_name 7) (pe_int) (fun _ _ => rfl)) (pa_nil))))) (pss_one (ps_set 6 sc_swap_measure.nd (pe_bin op_addT addT_ok (pe_name 6) (pe_int)))))))) (pss_one (ps_ret (pe_tup (pa_cons (pe_name 5) (pa_cons (pe_name 6) (pa_nil)))))))))
theorem sc_swapped : FnScope ["term", "name", "closed", "word", "part"] ["term", "name", "closed"] (defScope f_swapped) := ⟨rfl, rfl, rfl, by decide +kernel, rfl, by decide +kernel, by decide +kernel⟩
theorem t_swapped {k : Nat} (M : Md P w K mg base) {k_rebuilt : Nat} {g_rebuilt : PF} (F_rebuilt : Fn1 P w K mg base k_rebuilt "rebuilt" ["term", "parts"] (spP K g_rebuilt)) (hk_rebuilt : k_rebuilt ≤ k) {k_parts_of : Nat} {g_parts_of : PF} (F_parts_of : Fn1 P w K mg base k_parts_of "parts_of" ["term"] (spP K g_parts_of)) (hk_parts_of : k_parts_of ≤ k) {k_swapped : Nat} {g_swapped : PF} (F_swapped : Fn1 P w K mg base k_swapped "swapped" ["term", "name", "closed"] (spP K g_swapped)) (hk_swapped : k_swapped ≤ k) {cdv : Value} {A : Around} {outer : List Env} {s : Shared} {H : Hp} {E : XK} (hr : Room k (cxD P w K mg base ["term", "name", "closed", "word", "part"] "swapped" f_swapped cdv A outer s H E).A) (tk : Takes (cxD P w K mg base ["term", "name", "closed", "word", "part"] "swapped" f_swapped cdv A outer s H E) (wD E)) :
    PSst (cxD P w K mg base ["term", "name", "closed", "word", "part"] "swapped" f_swapped cdv A outer s H E) (wD E) (defBody f_swapped) (x_swapped g_rebuilt g_parts_of g_swapped) := by
  have hu : (cxD P w K mg base ["term", "name", "closed", "word", "part"] "swapped" f_swapped cdv A outer s H E).A.units + 65 < cLine := by have := hr.un; omega
  have hu4 : (cxD P w K mg base ["term", "name", "closed", "word", "part"] "swapped" f_swapped cdv A outer s H E).A.units + 64 < cLine := by have := hr.un; omega
  exact pss_cons (ps_set 3 sc_swapped.nd (pe_ix ix_seq ixT_ok (pe_name 0) (pe_int) (fun _ _ => rfl))) (pss_cons (ps_if (pt_cmp (op_eqD hu4) eqT_ok (pe_name 3) (pe_str) (by rfl)) (pss_cons (ps_if (pt_cmp (op_eqD hu4) eqT_ok (pe_ix ix_seq ixT_ok (pe_name 0) (pe_int) (fun _ _ => rfl)) (pe_name 1) (by rfl)) (pss_one (ps_ret (pe_name 2))) (pss_nil)) (pss_one (ps_ret (pe_name 0)))) (pss_nil)) (pss_cons (ps_if (PWt.pt (pw_and (pt_cmp (op_eqD hu4) eqT_ok (pe_name 3) (pe_str) (by rfl)) (pw_and1 (pt_cmp (op_eqD hu4) eqT_ok (pe_ix ix_seq ixT_ok (pe_name 0) (pe_int) (fun _ _ => rfl)) (pe_name 1) (by rfl))))) (pss_one (ps_ret (pe_name 0))) (pss_nil)) (pss_one (ps_ret (pe_call F_rebuilt (hr.mono hk_rebuilt) tk rfl (pa_cons (pe_name 0) (pa_cons (pe_callTy call_tuple_of tupleT_ok rfl M.tuple bt_tuple (pa_cons (pe_lc (own := [("part", 4)]) rfl sc_swapped.nd (pi_seq (pe_call F_parts_of (hr.mono hk_parts_of) tk rfl (pa_cons (pe_name 0) (pa_nil)))) (show BlkOk ["term", "name", "closed", "word", "part"] (defScope f_swapped) _ _ from ⟨rfl, by decide +kernel, by decide +kernel, by decide +kernel, by decide +kernel⟩) (by decide) (fun _ _ _ _ _ => pg_name 4 sc_swapped.nd) (fun _ _ _ _ _ => pts_nil) (fun _ _ _ _ _ => pe_call F_swapped (hr.mono hk_swapped) takes0 rfl (pa_cons (pe_name 4) (pa_cons (pe_name 1) (pa_cons (pe_name 2) (pa_nil)))))) (pa_nil))) (pa_nil))))))))
theorem sc_refuse_great : FnScope ["deep", "size"] ["deep", "size"] (defScope f_refuse_great) := ⟨rfl, rfl, rfl, by decide +kernel, rfl, by decide +kernel, by decide +kernel⟩
theorem t_refuse_great {k : Nat} (M : Md P w K mg base) (h2k : 2 ≤ k) {cdv : Value} {A : Around} {outer : List Env} {s : Shared} {H : Hp} {E : XK} (hr : Room k (cxD P w K mg base ["deep", "size"] "refuse_great" f_refuse_great cdv A outer s H E).A) (tk : Takes (cxD P w K mg base ["deep", "size"] "refuse_great" f_refuse_great cdv A outer s H E) (wD E)) :
    PSst (cxD P w K mg base ["deep", "size"] "refuse_great" f_refuse_great cdv A outer s H E) (wD E) (defBody f_refuse_great) (x_refuse_great (He.ga K)) := by
  have hu : (cxD P w K mg base ["deep", "size"] "refuse_great" f_refuse_great cdv A outer s H E).A.units + 65 < cLine := by have := hr.un; omega
  have hu4 : (cxD P w K mg base ["deep", "size"] "refuse_great" f_refuse_great cdv A outer s H E).A.units + 64 < cLine := by have := hr.un; omega
  exact pss_cons (ps_if (pt_cmp op_gt intT_ok (pe_name 0) (pe_globE (t := .int 40) rfl M.MOST_DEEP (fun _ => rfl)) (by rfl)) (pss_one (ps_raise1 M.k_TooDeep tk (hr.mono h2k) rfl (pa_cons (pe_globE (t := .int 40) rfl M.MOST_DEEP (fun _ => rfl)) (pa_nil)))) (pss_nil)) (pss_one (ps_if (pt_cmp op_gt intT_ok (pe_name 1) (pe_globE (t := .int 300) rfl M.MOST_NODES (fun _ => rfl)) (by rfl)) (pss_one (ps_raise1 M.k_TooBig tk (hr.mono h2k) rfl (pa_cons (pe_globE (t := .int 300) rfl M.MOST_NODES (fun _ => rfl)) (pa_nil)))) (pss_nil)))
theorem sc_child_slots : FnScope ["term", "at", "sort"] ["term"] (defScope f_child_slots) := ⟨rfl, rfl, rfl, by decide +kernel, rfl, by decide +kernel, by decide +kernel⟩
theorem t_child_slots {k : Nat} (M : Md P w K mg base) {cdv : Value} {A : Around} {outer : List Env} {s : Shared} {H : Hp} {E : XK} (hr : Room k (cxD P w K mg base ["term", "at", "sort"] "child_slots" f_child_slots cdv A outer s H E).A) (tk : Takes (cxD P w K mg base ["term", "at", "sort"] "child_slots" f_child_slots cdv A outer s H E) (wD E)) :
    PSst (cxD P w K mg base ["term", "at", "sort"] "child_slots" f_child_slots cdv A outer s H E) (wD E) (defBody f_child_slots) (x_child_slots) := by
  have hu : (cxD P w K mg base ["term", "at", "sort"] "child_slots" f_child_slots cdv A outer s H E).A.units + 65 < cLine := by have := hr.un; omega
  have hu4 : (cxD P w K mg base ["term", "at", "sort"] "child_slots" f_child_slots cdv A outer s H E).A.units + 64 < cLine := by have := hr.un; omega
  exact pss_one (ps_ret (pe_lc (own := [("at", 1), ("sort", 2)]) rfl sc_child_slots.nd (pit_enumA rfl M.enumerate (pa_cons (pe_tab M.LAYOUT rfl (pe_ix ix_seq ixT_ok (pe_name 0) (pe_int) (fun _ _ => rfl)) (fun _ _ => rfl)) (pa_nil))) (show BlkOk ["term", "at", "sort"] (defScope f_child_slots) _ _ from ⟨rfl, by decide +kernel, by decide +kernel, by decide +kernel, by decide +kernel⟩) (by decide) (fun _ _ _ _ _ => pg_tup rfl (pgs_cons (pg_name 1 sc_child_slots.nd) (pgs_cons (pg_name 2 sc_child_slots.nd) (pgs_nil)))) (fun _ _ _ _ _ => pts_one (pt_cmp (op_eqD hu4) eqT_ok (pe_name 2) (pe_str) (by rfl))) (fun _ _ _ _ _ => pe_bin op_addT addT_ok (pe_name 1) (pe_int))))
theorem sc_node_rows : FnScope ["term", "rows", "waiting", "row", "part", "parent", "depth", "spot", "number", "slots", "slot"] ["term"] (defScope f_node_rows) := ⟨rfl, rfl, rfl, by decide +kernel, rfl, by decide +kernel, by decide +kernel⟩
theorem t_node_rows {k : Nat} (M : Md P w K mg base) {k_child_slots : Nat} {g_child_slots : PF} (F_child_slots : Fn1 P w K mg base k_child_slots "child_slots" ["term"] (spP K g_child_slots)) (hk_child_slots : k_child_slots ≤ k) {cdv : Value} {A : Around} {outer : List Env} {s : Shared} {H : Hp} {E : XK} (hr : Room k (cxD P w K mg base ["term", "rows", "waiting", "row", "part", "parent", "depth", "spot", "number", "slots", "slot"] "node_rows" f_node_rows cdv A outer s H E).A) (tk : Takes (cxD P w K mg base ["term", "rows", "waiting", "row", "part", "parent", "depth", "spot", "number", "slots", "slot"] "node_rows" f_node_rows cdv A outer s H E) (wD E)) :
    PSst (cxD P w K mg base ["term", "rows", "waiting", "row", "part", "parent", "depth", "spot", "number", "slots", "slot"] "node_rows" f_node_rows cdv A outer s H E) (wD E) (defBody f_node_rows) (x_node_rows g_child_slots) := by
  have hu : (cxD P w K mg base ["term", "rows", "waiting", "row", "part", "parent", "depth", "spot", "number", "slots", "slot"] "node_rows" f_node_rows cdv A outer s H E).A.units + 65 < cLine := by have := hr.un; omega
  have hu4 : (cxD P w K mg base ["term", "rows", "waiting", "row", "part", "parent", "depth", "spot", "number", "slots", "slot"] "node_rows" f_node_rows cdv A outer s H E).A.units + 64 < cLine := by have := hr.un; omega
  exact pss_cons (ps_set 1 sc_node_rows.nd (pe_lst (pa_nil))) (pss_cons (ps_set 2 sc_node_rows.nd (pe_lst (pa_cons (pe_tup (pa_cons (pe_name 0) (pa_cons (pe_non) (pa_cons (pe_int) (pa_cons (pe_int) (pa_nil)))))) (pa_nil)))) (pss_cons (ps_while (passes_of rfl) (pt_bor (pt_tru (pe_name 2))) (pss_cons (ps_set 3 sc_node_rows.nd (pe_pop 2)) (pss_cons (ps_asg (pe_name 3) (pg_tup rfl (pgs_cons (pg_name 4 sc_node_rows.nd) (pgs_cons (pg_name 5 sc_node_rows.nd) (pgs_cons (pg_name 6 sc_node_rows.nd) (pgs_cons (pg_name 7 sc_node_rows.nd) (pgs_nil))))))) (pss_cons (ps_set 8 sc_node_rows.nd (pe_bor (pe_callB call_lenT lenT_ok rfl M.len bt_len (pa_cons (pe_name 1) (pa_nil))))) (pss_cons (ps_expr (pe_app 1 (pa_cons (pe_name 3) (pa_nil)))) (pss_cons (ps_set 9 sc_node_rows.nd (pe_call F_child_slots (hr.mono hk_child_slots) tk rfl (pa_cons (pe_name 4) (pa_nil)))) (pss_one (ps_for (passes_of rfl) rfl (pi_seq (pet_revA (pe_name 9))) (pg_name 10 sc_node_rows.nd) (pss_one (ps_expr (pe_app 2 (pa_cons (pe_tup (pa_cons (pe_ix ix_seq ixT_ok (pe_name 4) (pe_name 10) (fun _ _ => rfl)) (pa_cons (pe_name 8) (pa_cons (pe_bin op_addT addT_ok (pe_name 6) (pe_int)) (pa_cons (pe_name 10) (pa_nil)))))) (pa_nil))))))))))))) (pss_one (ps_ret (pe_mov 1)))))
theorem sc_rows_with : FnScope ["term", "node", "rows"] ["term", "node"] (defScope f_rows_with) := ⟨rfl, rfl, rfl, by decide +kernel, rfl, by decide +kernel, by decide +kernel⟩
theorem t_rows_with {k : Nat} (M : Md P w K mg base) (h2k : 2 ≤ k) {k_node_rows : Nat} {g_node_rows : PF} (F_node_rows : Fn1 P w K mg base k_node_rows "node_rows" ["term"] (spP K g_node_rows)) (hk_node_rows : k_node_rows ≤ k) {cdv : Value} {A : Around} {outer : List Env} {s : Shared} {H : Hp} {E : XK} (hr : Room k (cxD P w K mg base ["term", "node", "rows"] "rows_with" f_rows_with cdv A outer s H E).A) (tk : Takes (cxD P w K mg base ["term", "node", "rows"] "rows_with" f_rows_with cdv A outer s H E) (wD E)) :
    PSst (cxD P w K mg base ["term", "node", "rows"] "rows_with" f_rows_with cdv A outer s H E) (wD E) (defBody f_rows_with) (x_rows_with g_node_rows (He.ga K)) := by
  have hu : (cxD P w K mg base ["term", "node", "rows"] "rows_with" f_rows_with cdv A outer s H E).A.units + 65 < cLine := by have := hr.un; omega
  have hu4 : (cxD P w K mg base ["term", "node", "rows"] "rows_with" f_rows_with cdv A outer s H E).A.units + 64 < cLine := by have := hr.un; omega
  exact pss_cons (ps_set 2 sc_rows_with.nd (pe_call F_node_rows (hr.mono hk_node_rows) tk rfl (pa_cons (pe_name 0) (pa_nil)))) (pss_cons (ps_if (pt_not (pt_chain op_le intT_ok op_lt intT_ok (pe_int) (pe_name 1) (pe_callB call_lenT lenT_ok rfl M.len bt_len (pa_cons (pe_name 2) (pa_nil))))) (pss_one (ps_raise1 M.k_NotThere tk (hr.mono h2k) rfl (pa_cons (pe_name 1) (pa_nil)))) (pss_nil)) (pss_one (ps_ret (pe_name 2))))
theorem sc_node_count : FnScope ["term"] ["term"] (defScope f_node_count) := ⟨rfl, rfl, rfl, by decide +kernel, rfl, by decide +kernel, by decide +kernel⟩
theorem t_node_count {k : Nat} (M : Md P w K mg base) {k_node_rows : Nat} {g_node_rows : PF} (F_node_rows : Fn1 P w K mg base k_node_rows "node_rows" ["term"] (spP K g_node_rows)) (hk_node_rows : k_node_rows ≤ k) {cdv : Value} {A : Around} {outer : List Env} {s : Shared} {H : Hp} {E : XK} (hr : Room k (cxD P w K mg base ["term"] "node_count" f_node_count cdv A outer s H E).A) (tk : Takes (cxD P w K mg base ["term"] "node_count" f_node_count cdv A outer s H E) (wD E)) :
    PSst (cxD P w K mg base ["term"] "node_count" f_node_count cdv A outer s H E) (wD E) (defBody f_node_count) (x_node_count g_node_rows) := by
  have hu : (cxD P w K mg base ["term"] "node_count" f_node_count cdv A outer s H E).A.units + 65 < cLine := by have := hr.un; omega
  have hu4 : (cxD P w K mg base ["term"] "node_count" f_node_count cdv A outer s H E).A.units + 64 < cLine := by have := hr.un; omega
  exact pss_one (ps_ret (pe_callB call_lenT lenT_ok rfl M.len bt_len (pa_cons (pe_call F_node_rows (hr.mono hk_node_rows) tk rfl (pa_cons (pe_name 0) (pa_nil))) (pa_nil))))
theorem sc_term_depth : FnScope ["term", "deepest", "part", "parent", "depth", "slot"] ["term"] (defScope f_term_depth) := ⟨rfl, rfl, rfl, by decide +kernel, rfl, by decide +kernel, by decide +kernel⟩
theorem t_term_depth {k : Nat} (M : Md P w K mg base) {k_node_rows : Nat} {g_node_rows : PF} (F_node_rows : Fn1 P w K mg base k_node_rows "node_rows" ["term"] (spP K g_node_rows)) (hk_node_rows : k_node_rows ≤ k) {cdv : Value} {A : Around} {outer : List Env} {s : Shared} {H : Hp} {E : XK} (hr : Room k (cxD P w K mg base ["term", "deepest", "part", "parent", "depth", "slot"] "term_depth" f_term_depth cdv A outer s H E).A) (tk : Takes (cxD P w K mg base ["term", "deepest", "part", "parent", "depth", "slot"] "term_depth" f_term_depth cdv A outer s H E) (wD E)) :
    PSst (cxD P w K mg base ["term", "deepest", "part", "parent", "depth", "slot"] "term_depth" f_term_depth cdv A outer s H E) (wD E) (defBody f_term_depth) (x_term_depth g_node_rows) := by
  have hu : (cxD P w K mg base ["term", "deepest", "part", "parent", "depth", "slot"] "term_depth" f_term_depth cdv A outer s H E).A.units + 65 < cLine := by have := hr.un; omega
  have hu4 : (cxD P w K mg base ["term", "deepest", "part", "parent", "depth", "slot"] "term_depth" f_term_depth cdv A outer s H E).A.units + 64 < cLine := by have := hr.un; omega
  exact pss_cons (ps_set 1 sc_term_depth.nd (pe_int)) (pss_cons (ps_for (passes_of rfl) rfl (pi_seq (pe_call F_node_rows (hr.mono hk_node_rows) tk rfl (pa_cons (pe_name 0) (pa_nil)))) (pg_tup rfl (pgs_cons (pg_name 2 sc_term_depth.nd) (pgs_cons (pg_name 3 sc_term_depth.nd) (pgs_cons (pg_name 4 sc_term_depth.nd) (pgs_cons (pg_name 5 sc_term_depth.nd) (pgs_nil)))))) (pss_one (ps_if (pt_cmp op_gt intT_ok (pe_name 4) (pe_name 1) (by rfl)) (pss_one (ps_set 1 sc_term_depth.nd (pe_name 4))) (pss_nil)))) (pss_one (ps_ret (pe_name 1))))
theorem sc_replaced_depth : FnScope ["rows", "node", "size", "other", "deepest", "number", "part", "parent", "depth", "slot", "inside"] ["rows", "node", "size", "other"] (defScope f_replaced_depth) := ⟨rfl, rfl, rfl, by decide +kernel, rfl, by decide +kernel, by decide +kernel⟩
theorem t_replaced_depth {k : Nat} (M : Md P w K mg base) {k_term_depth : Nat} {g_term_depth : PF} (F_term_depth : Fn1 P w K mg base k_term_depth "term_depth" ["term"] (spP K g_term_depth)) (hk_term_depth : k_term_depth ≤ k) {cdv : Value} {A : Around} {outer : List Env} {s : Shared} {H : Hp} {E : XK} (hr : Room k (cxD P w K mg base ["rows", "node", "size", "other", "deepest", "number", "part", "parent", "depth", "slot", "inside"] "replaced_depth" f_replaced_depth cdv A outer s H E).A) (tk : Takes (cxD P w K mg base ["rows", "node", "size", "other", "deepest", "number", "part", "parent", "depth", "slot", "inside"] "replaced_depth" f_replaced_depth cdv A outer s H E) (wD E)) :
    PSst (cxD P w K mg base ["rows", "node", "size", "other", "deepest", "number", "part", "parent", "depth", "slot", "inside"] "replaced_depth" f_replaced_depth cdv A outer s H E) (wD E) (defBody f_replaced_depth) (x_replaced_depth g_term_depth) := by
  have hu : (cxD P w K mg base ["rows", "node", "size", "other", "deepest", "number", "part", "parent", "depth", "slot", "inside"] "replaced_depth" f_replaced_depth cdv A outer s H E).A.units + 65 < cLine := by have := hr.un; omega
  have hu4 : (cxD P w K mg base ["rows", "node", "size", "other", "deepest", "number", "part", "parent", "depth", "slot", "inside"] "replaced_depth" f_replaced_depth cdv A outer s H E).A.units + 64 < cLine := by have := hr.un; omega
  exact pss_cons (ps_set 4 sc_replaced_depth.nd (pe_bin op_addT addT_ok (pe_bin op_sub1 subT_ok (pe_ix ix_seq ixT_ok (pe_ix ix_seq ixT_ok (pe_name 0) (pe_name 1) (fun _ _ => rfl)) (pe_int) (fun _ _ => rfl)) (pe_int)) (pe_call F_term_depth (hr.mono hk_term_depth) tk rfl (pa_cons (pe_name 3) (pa_nil))))) (pss_cons (ps_for (passes_of rfl) rfl (pit_enumA rfl M.enumerate (pa_cons (pe_name 0) (pa_nil))) (pg_tup rfl (pgs_cons (pg_name 5 sc_replaced_depth.nd) (pgs_cons (pg_tup rfl (pgs_cons (pg_name 6 sc_replaced_depth.nd) (pgs_cons (pg_name 7 sc_replaced_depth.nd) (pgs_cons (pg_name 8 sc_replaced_depth.nd) (pgs_cons (pg_name 9 sc_replaced_depth.nd) (pgs_nil)))))) (pgs_nil)))) (pss_cons (ps_set 10 sc_replaced_depth.nd (pe_chain op_le intT_ok op_lt intT_ok (pe_name 1) (pe_name 5) (pe_bin op_addT addT_ok (pe_name 1) (pe_name 2)))) (pss_one (ps_if (PWt.pt (pw_and (pt_not (pt_tru (pe_name 10))) (pw_and1 (pt_cmp op_gt intT_ok (pe_name 8) (pe_name 4) (by rfl))))) (pss_one (ps_set 4 sc_replaced_depth.nd (pe_name 8))) (pss_nil))))) (pss_one (ps_ret (pe_name 4))))
theorem sc_with_term : FnScope ["term", "node", "other", "rows", "size", "made", "number", "part", "parent", "depth", "slot", "above"] ["term", "node", "other"] (defScope f_with_term) := ⟨rfl, rfl, rfl, by decide +kernel, rfl, by decide +kernel, by decide +kernel⟩
theorem t_with_term {k : Nat} (M : Md P w K mg base) (h2k : 2 ≤ k) {k_rows_with : Nat} {g_rows_with : PF} (F_rows_with : Fn1 P w K mg base k_rows_with "rows_with" ["term", "node"] (spP K g_rows_with)) (hk_rows_with : k_rows_with ≤ k) {k_node_count : Nat} {g_node_count : PF} (F_node_count : Fn1 P w K mg base k_node_count "node_count" ["term"] (spP K g_node_count)) (hk_node_count : k_node_count ≤ k) {k_replaced_depth : Nat} {g_replaced_depth : PF} (F_replaced_depth : Fn1 P w K mg base k_replaced_depth "replaced_depth" ["rows", "node", "size", "other"] (spP K g_replaced_depth)) (hk_replaced_depth : k_replaced_depth ≤ k) {cdv : Value} {A : Around} {outer : List Env} {s : Shared} {H : Hp} {E : XK} (hr : Room k (cxD P w K mg base ["term", "node", "other", "rows", "size", "made", "number", "part", "parent", "depth", "slot", "above"] "with_term" f_with_term cdv A outer s H E).A) (tk : Takes (cxD P w K mg base ["term", "node", "other", "rows", "size", "made", "number", "part", "parent", "depth", "slot", "above"] "with_term" f_with_term cdv A outer s H E) (wD E)) :
    PSst (cxD P w K mg base ["term", "node", "other", "rows", "size", "made", "number", "part", "parent", "depth", "slot", "above"] "with_term" f_with_term cdv A outer s H E) (wD E) (defBody f_with_term) (x_with_term g_rows_with g_node_count g_replaced_depth (He.ga K)) := by
  have hu : (cxD P w K mg base ["term", "node", "other", "rows", "size", "made", "number", "part", "parent", "depth", "slot", "above"] "with_term" f_with_term cdv A outer s H E).A.units + 65 < cLine := by have := hr.un; omega
  have hu4 : (cxD P w K mg base ["term", "node", "other", "rows", "size", "made", "number", "part", "parent", "depth", "slot", "above"] "with_term" f_with_term cdv A outer s H E).A.units + 64 < cLine := by have := hr.un; omega
  exact pss_cons (ps_set 3 sc_with_term.nd (pe_call F_rows_with (hr.mono hk_rows_with) tk rfl (pa_cons (pe_name 0) (pa_cons (pe_name 1) (pa_nil))))) (pss_cons (ps_set 4 sc_with_term.nd (pe_call F_node_count (hr.mono hk_node_count) tk rfl (pa_cons (pe_ix ix_seq ixT_ok (pe_ix ix_seq ixT_ok (pe_name 3) (pe_name 1) (fun _ _ => rfl)) (pe_int) (fun _ _ => rfl)) (pa_nil)))) (pss_cons (ps_if (pt_cmp op_gt intT_ok (pe_call F_replaced_depth (hr.mono hk_replaced_depth) tk rfl (pa_cons (pe_name 3) (pa_cons (pe_name 1) (pa_cons (pe_name 4) (pa_cons (pe_name 2) (pa_nil)))))) (pe_globE (t := .int 40) rfl M.DEEPEST (fun _ => rfl)) (by rfl)) (pss_one (ps_raise1 M.k_TooDeep tk (hr.mono h2k) rfl (pa_cons (pe_globE (t := .int 40) rfl M.DEEPEST (fun _ => rfl)) (pa_nil)))) (pss_nil)) (pss_cons (ps_if (pt_cmp op_gt intT_ok (pe_bin op_addT addT_ok (pe_bin op_sub1 subT_ok (pe_callB call_lenT lenT_ok rfl M.len bt_len (pa_cons (pe_name 3) (pa_nil))) (pe_name 4)) (pe_call F_node_count (hr.mono hk_node_count) tk rfl (pa_cons (pe_name 2) (pa_nil)))) (pe_globE (t := .int 300) rfl M.LARGEST (fun _ => rfl)) (by rfl)) (pss_one (ps_raise1 M.k_TooBig tk (hr.mono h2k) rfl (pa_cons (pe_globE (t := .int 300) rfl M.LARGEST (fun _ => rfl)) (pa_nil)))) (pss_nil)) (pss_cons (ps_set 5 sc_with_term.nd (pe_name 2)) (pss_cons (ps_set 6 sc_with_term.nd (pe_name 1)) (pss_cons (ps_while (passes_of rfl) (pt_cmp op_notN notNT_ok (pe_ix ix_seq ixT_ok (pe_ix ix_seq ixT_ok (pe_name 3) (pe_name 6) (fun _ _ => rfl)) (pe_int) (fun _ _ => rfl)) (pe_non) (by rfl)) (pss_cons (ps_asg (pe_ix ix_seq ixT_ok (pe_name 3) (pe_name 6) (fun _ _ => rfl)) (pg_tup rfl (pgs_cons (pg_name 7 sc_with_term.nd) (pgs_cons (pg_name 8 sc_with_term.nd) (pgs_cons (pg_name 9 sc_with_term.nd) (pgs_cons (pg_name 10 sc_with_term.nd) (pgs_nil))))))) (pss_cons (ps_set 11 sc_with_term.nd (pe_ix ix_seq ixT_ok (pe_ix ix_seq ixT_ok (pe_name 3) (pe_name 8) (fun _ _ => rfl)) (pe_int) (fun _ _ => rfl))) (pss_cons (ps_set 5 sc_with_term.nd (pe_bin op_addT addT_ok (pe_bin op_addT addT_ok (pe_slice (pe_name 11) (po_none) (po_some (pe_name 10))) (pe_tup (pa_cons (pe_name 5) (pa_nil)))) (pe_slice (pe_name 11) (po_some (pe_bin op_addT addT_ok (pe_name 10) (pe_int))) (po_none)))) (pss_one (ps_set 6 sc_with_term.nd (pe_name 8))))))) (pss_one (ps_ret (pe_name 5)))))))))
theorem sc_is_redex : FnScope ["here", "word"] ["here"] (defScope f_is_redex) := ⟨rfl, rfl, rfl, by decide +kernel, rfl, by decide +kernel, by decide +kernel⟩
theorem t_is_redex {k : Nat} (M : Md P w K mg base) {k_first_free : Nat} {g_first_free : PF} (F_first_free : Fn1 P w K mg base k_first_free "first_free" ["term"] (spP K g_first_free)) (hk_first_free : k_first_free ≤ k) {cdv : Value} {A : Around} {outer : List Env} {s : Shared} {H : Hp} {E : XK} (hr : Room k (cxD P w K mg base ["here", "word"] "is_redex" f_is_redex cdv A outer s H E).A) (tk : Takes (cxD P w K mg base ["here", "word"] "is_redex" f_is_redex cdv A outer s H E) (wD E)) :
    PSst (cxD P w K mg base ["here", "word"] "is_redex" f_is_redex cdv A outer s H E) (wD E) (defBody f_is_redex) (x_is_redex g_first_free) := by
  have hu : (cxD P w K mg base ["here", "word"] "is_redex" f_is_redex cdv A outer s H E).A.units + 65 < cLine := by have := hr.un; omega
  have hu4 : (cxD P w K mg base ["here", "word"] "is_redex" f_is_redex cdv A outer s H E).A.units + 64 < cLine := by have := hr.un; omega
  exact pss_cons (ps_set 1 sc_is_redex.nd (pe_ix ix_seq ixT_ok (pe_name 0) (pe_int) (fun _ _ => rfl))) (pss_cons (ps_if (pt_cmp (op_eqD hu4) eqT_ok (pe_name 1) (pe_str) (by rfl)) (pss_one (ps_ret (pe_bl))) (pss_nil)) (pss_cons (ps_if (pt_cmp (op_eqD hu4) eqT_ok (pe_name 1) (pe_str) (by rfl)) (pss_one (ps_ret (pe_andV (pe_cmp (op_eqD hu4) eqT_ok (pe_ix ix_seq ixT_ok (pe_ix ix_seq ixT_ok (pe_name 0) (pe_int) (fun _ _ => rfl)) (pe_int) (fun _ _ => rfl)) (pe_str) (by rfl)) (pe_oneV (pe_cmp op_isN isNT_ok (pe_call F_first_free (hr.mono hk_first_free) tk rfl (pa_cons (pe_ix ix_seq ixT_ok (pe_name 0) (pe_int) (fun _ _ => rfl)) (pa_nil))) (pe_non) (by rfl)))))) (pss_nil)) (pss_cons (ps_if (pt_cmp (op_inT hu) inT_ok (pe_name 1) (pe_tup (pa_cons (pe_str) (pa_cons (pe_str) (pa_nil)))) (by rfl)) (pss_one (ps_ret (pe_cmp (op_eqD hu4) eqT_ok (pe_ix ix_seq ixT_ok (pe_ix ix_seq ixT_ok (pe_name 0) (pe_int) (fun _ _ => rfl)) (pe_int) (fun _ _ => rfl)) (pe_str) (by rfl)))) (pss_nil)) (pss_one (ps_ret (pe_andV (pe_cmp (op_eqD hu4) eqT_ok (pe_name 1) (pe_str) (by rfl)) (pe_oneV (pe_cmp (op_eqD hu4) eqT_ok (pe_ix ix_seq ixT_ok (pe_ix ix_seq ixT_ok (pe_name 0) (pe_int) (fun _ _ => rfl)) (pe_int) (fun _ _ => rfl)) (pe_str) (by rfl)))))))))
theorem sc_redexes : FnScope ["term", "node", "row"] ["term"] (defScope f_redexes) := ⟨rfl, rfl, rfl, by decide +kernel, rfl, by decide +kernel, by decide +kernel⟩
theorem t_redexes {k : Nat} (M : Md P w K mg base) {k_walk : Nat} {g_walk : PF} (F_walk : Fn1 P w K mg base k_walk "walk" ["term"] (spP K g_walk)) (hk_walk : k_walk ≤ k) {k_is_redex : Nat} {g_is_redex : PF} (F_is_redex : Fn1 P w K mg base k_is_redex "is_redex" ["here"] (spP K g_is_redex)) (hk_is_redex : k_is_redex ≤ k) {cdv : Value} {A : Around} {outer : List Env} {s : Shared} {H : Hp} {E : XK} (hr : Room k (cxD P w K mg base ["term", "node", "row"] "redexes" f_redexes cdv A outer s H E).A) (tk : Takes (cxD P w K mg base ["term", "node", "row"] "redexes" f_redexes cdv A outer s H E) (wD E)) :
    PSst (cxD P w K mg base ["term", "node", "row"] "redexes" f_redexes cdv A outer s H E) (wD E) (defBody f_redexes) (x_redexes g_walk g_is_redex) := by
  have hu : (cxD P w K mg base ["term", "node", "row"] "redexes" f_redexes cdv A outer s H E).A.units + 65 < cLine := by have := hr.un; omega
  have hu4 : (cxD P w K mg base ["term", "node", "row"] "redexes" f_redexes cdv A outer s H E).A.units + 64 < cLine := by have := hr.un; omega
  exact pss_one (ps_ret (pe_lc (own := [("node", 1), ("row", 2)]) rfl sc_redexes.nd (pit_enumA rfl M.enumerate (pa_cons (pe_call F_walk (hr.mono hk_walk) tk rfl (pa_cons (pe_name 0) (pa_nil))) (pa_nil))) (show BlkOk ["term", "node", "row"] (defScope f_redexes) _ _ from ⟨rfl, by decide +kernel, by decide +kernel, by decide +kernel, by decide +kernel⟩) (by decide) (fun _ _ _ _ _ => pg_tup rfl (pgs_cons (pg_name 1 sc_redexes.nd) (pgs_cons (pg_name 2 sc_redexes.nd) (pgs_nil)))) (fun _ _ _ _ _ => pts_one (pt_tru (pe_call F_is_redex (hr.mono hk_is_redex) takes0 rfl (pa_cons (pe_ix ix_seq ixT_ok (pe_name 2) (pe_int) (fun _ _ => rfl)) (pa_nil))))) (fun _ _ _ _ _ => pe_name 1)))
theorem sc_reduced_root : FnScope ["here", "word"] ["here"] (defScope f_reduced_root) := ⟨rfl, rfl, rfl, by decide +kernel, rfl, by decide +kernel, by decide +kernel⟩
theorem t_reduced_root {k : Nat} (M : Md P w K mg base) {k_swapped : Nat} {g_swapped : PF} (F_swapped : Fn1 P w K mg base k_swapped "swapped" ["term", "name", "closed"] (spP K g_swapped)) (hk_swapped : k_swapped ≤ k) {cdv : Value} {A : Around} {outer : List Env} {s : Shared} {H : Hp} {E : XK} (hr : Room k (cxD P w K mg base ["here", "word"] "reduced_root" f_reduced_root cdv A outer s H E).A) (tk : Takes (cxD P w K mg base ["here", "word"] "reduced_root" f_reduced_root cdv A outer s H E) (wD E)) :
    PSst (cxD P w K mg base ["here", "word"] "reduced_root" f_reduced_root cdv A outer s H E) (wD E) (defBody f_reduced_root) (x_reduced_root g_swapped) := by
  have hu : (cxD P w K mg base ["here", "word"] "reduced_root" f_reduced_root cdv A outer s H E).A.units + 65 < cLine := by have := hr.un; omega
  have hu4 : (cxD P w K mg base ["here", "word"] "reduced_root" f_reduced_root cdv A outer s H E).A.units + 64 < cLine := by have := hr.un; omega
  exact pss_cons (ps_set 1 sc_reduced_root.nd (pe_ix ix_seq ixT_ok (pe_name 0) (pe_int) (fun _ _ => rfl))) (pss_cons (ps_if (pt_cmp (op_eqD hu4) eqT_ok (pe_name 1) (pe_str) (by rfl)) (pss_one (ps_ret (pe_ix ix_seq ixT_ok (pe_name 0) (pe_int) (fun _ _ => rfl)))) (pss_nil)) (pss_cons (ps_if (pt_cmp (op_eqD hu4) eqT_ok (pe_name 1) (pe_str) (by rfl)) (pss_one (ps_ret (pe_call F_swapped (hr.mono hk_swapped) tk rfl (pa_cons (pe_ix ix_seq ixT_ok (pe_ix ix_seq ixT_ok (pe_name 0) (pe_int) (fun _ _ => rfl)) (pe_int) (fun _ _ => rfl)) (pa_cons (pe_ix ix_seq ixT_ok (pe_ix ix_seq ixT_ok (pe_name 0) (pe_int) (fun _ _ => rfl)) (pe_int) (fun _ _ => rfl)) (pa_cons (pe_ix ix_seq ixT_ok (pe_name 0) (pe_int) (fun _ _ => rfl)) (pa_nil))))))) (pss_nil)) (pss_cons (ps_if (pt_cmp (op_eqD hu4) eqT_ok (pe_name 1) (pe_str) (by rfl)) (pss_one (ps_ret (pe_ix ix_seq ixT_ok (pe_ix ix_seq ixT_ok (pe_name 0) (pe_int) (fun _ _ => rfl)) (pe_int) (fun _ _ => rfl)))) (pss_nil)) (pss_one (ps_ret (pe_ix ix_seq ixT_ok (pe_ix ix_seq ixT_ok (pe_name 0) (pe_int) (fun _ _ => rfl)) (pe_int) (fun _ _ => rfl)))))))
theorem sc_reduced_measure : FnScope ["here"] ["here"] (defScope f_reduced_measure) := ⟨rfl, rfl, rfl, by decide +kernel, rfl, by decide +kernel, by decide +kernel⟩
theorem t_reduced_measure {k : Nat} (M : Md P w K mg base) {k_swap_measure : Nat} {g_swap_measure : PF} (F_swap_measure : Fn1 P w K mg base k_swap_measure "swap_measure" ["term", "name", "closed"] (spP K g_swap_measure)) (hk_swap_measure : k_swap_measure ≤ k) {k_measure : Nat} {g_measure : PF} (F_measure : Fn1 P w K mg base k_measure "measure" ["rows"] (spP K g_measure)) (hk_measure : k_measure ≤ k) {k_walk : Nat} {g_walk : PF} (F_walk : Fn1 P w K mg base k_walk "walk" ["term"] (spP K g_walk)) (hk_walk : k_walk ≤ k) {k_reduced_root : Nat} {g_reduced_root : PF} (F_reduced_root : Fn1 P w K mg base k_reduced_root "reduced_root" ["here"] (spP K g_reduced_root)) (hk_reduced_root : k_reduced_root ≤ k) {cdv : Value} {A : Around} {outer : List Env} {s : Shared} {H : Hp} {E : XK} (hr : Room k (cxD P w K mg base ["here"] "reduced_measure" f_reduced_measure cdv A outer s H E).A) (tk : Takes (cxD P w K mg base ["here"] "reduced_measure" f_reduced_measure cdv A outer s H E) (wD E)) :
    PSst (cxD P w K mg base ["here"] "reduced_measure" f_reduced_measure cdv A outer s H E) (wD E) (defBody f_reduced_measure) (x_reduced_measure g_swap_measure g_measure g_walk g_reduced_root) := by
  have hu : (cxD P w K mg base ["here"] "reduced_measure" f_reduced_measure cdv A outer s H E).A.units + 65 < cLine := by have := hr.un; omega
  have hu4 : (cxD P w K mg base ["here"] "reduced_measure" f_reduced_measure cdv A outer s H E).A.units + 64 < cLine := by have := hr.un; omega
  exact pss_cons (ps_if (pt_cmp (op_eqD hu4) eqT_ok (pe_ix ix_seq ixT_ok (pe_name 0) (pe_int) (fun _ _ => rfl)) (pe_str) (by rfl)) (pss_one (ps_ret (pe_call F_swap_measure (hr.mono hk_swap_measure) tk rfl (pa_cons (pe_ix ix_seq ixT_ok (pe_ix ix_seq ixT_ok (pe_name 0) (pe_int) (fun _ _ => rfl)) (pe_int) (fun _ _ => rfl)) (pa_cons (pe_ix ix_seq ixT_ok (pe_ix ix_seq ixT_ok (pe_name 0) (pe_int) (fun _ _ => rfl)) (pe_int) (fun _ _ => rfl)) (pa_cons (pe_ix ix_seq ixT_ok (pe_name 0) (pe_int) (fun _ _ => rfl)) (pa_nil))))))) (pss_nil)) (pss_one (ps_ret (pe_call F_measure (hr.mono hk_measure) tk rfl (pa_cons (pe_call F_walk (hr.mono hk_walk) tk rfl (pa_cons (pe_call F_reduced_root (hr.mono hk_reduced_root) tk rfl (pa_cons (pe_name 0) (pa_nil))) (pa_nil))) (pa_nil)))))
theorem sc_reduced_at : FnScope ["term", "node", "rows", "here", "low", "many", "behind", "deep", "size"] ["term", "node"] (defScope f_reduced_at) := ⟨rfl, rfl, rfl, by decide +kernel, rfl, by decide +kernel, by decide +kernel⟩
theorem t_reduced_at {k : Nat} (M : Md P w K mg base) (h2k : 2 ≤ k) {k_walk : Nat} {g_walk : PF} (F_walk : Fn1 P w K mg base k_walk "walk" ["term"] (spP K g_walk)) (hk_walk : k_walk ≤ k) {k_is_redex : Nat} {g_is_redex : PF} (F_is_redex : Fn1 P w K mg base k_is_redex "is_redex" ["here"] (spP K g_is_redex)) (hk_is_redex : k_is_redex ≤ k) {k_reduced_measure : Nat} {g_reduced_measure : PF} (F_reduced_measure : Fn1 P w K mg base k_reduced_measure "reduced_measure" ["here"] (spP K g_reduced_measure)) (hk_reduced_measure : k_reduced_measure ≤ k) {k_measure : Nat} {g_measure : PF} (F_measure : Fn1 P w K mg base k_measure "measure" ["rows"] (spP K g_measure)) (hk_measure : k_measure ≤ k) {k_refuse_great : Nat} {g_refuse_great : PF} (F_refuse_great : Fn1 P w K mg base k_refuse_great "refuse_great" ["deep", "size"] (spP K g_refuse_great)) (hk_refuse_great : k_refuse_great ≤ k) {k_with_term : Nat} {g_with_term : PF} (F_with_term : Fn1 P w K mg base k_with_term "with_term" ["term", "node", "other"] (spP K g_with_term)) (hk_with_term : k_with_term ≤ k) {k_reduced_root : Nat} {g_reduced_root : PF} (F_reduced_root : Fn1 P w K mg base k_reduced_root "reduced_root" ["here"] (spP K g_reduced_root)) (hk_reduced_root : k_reduced_root ≤ k) {cdv : Value} {A : Around} {outer : List Env} {s : Shared} {H : Hp} {E : XK} (hr : Room k (cxD P w K mg base ["term", "node", "rows", "here", "low", "many", "behind", "deep", "size"] "reduced_at" f_reduced_at cdv A outer s H E).A) (tk : Takes (cxD P w K mg base ["term", "node", "rows", "here", "low", "many", "behind", "deep", "size"] "reduced_at" f_reduced_at cdv A outer s H E) (wD E)) :
    PSst (cxD P w K mg base ["term", "node", "rows", "here", "low", "many", "behind", "deep", "size"] "reduced_at" f_reduced_at cdv A outer s H E) (wD E) (defBody f_reduced_at) (x_reduced_at g_walk g_is_redex g_reduced_measure g_measure g_refuse_great g_with_term g_reduced_root (He.ga K)) := by
  have hu : (cxD P w K mg base ["term", "node", "rows", "here", "low", "many", "behind", "deep", "size"] "reduced_at" f_reduced_at cdv A outer s H E).A.units + 65 < cLine := by have := hr.un; omega
  have hu4 : (cxD P w K mg base ["term", "node", "rows", "here", "low", "many", "behind", "deep", "size"] "reduced_at" f_reduced_at cdv A outer s H E).A.units + 64 < cLine := by have := hr.un; omega
  exact pss_cons (ps_set 2 sc_reduced_at.nd (pe_call F_walk (hr.mono hk_walk) tk rfl (pa_cons (pe_name 0) (pa_nil)))) (pss_cons (ps_if (PWt.pt (pw_or (pt_cmp op_lt intT_ok (pe_name 1) (pe_int) (by rfl)) (pw_or (pt_cmp op_ge intT_ok (pe_name 1) (pe_callB call_lenT lenT_ok rfl M.len bt_len (pa_cons (pe_name 2) (pa_nil))) (by rfl)) (pw_or1 (pt_not (pt_tru (pe_call F_is_redex (hr.mono hk_is_redex) tk rfl (pa_cons (pe_ix ix_seq ixT_ok (pe_ix ix_seq ixT_ok (pe_name 2) (pe_name 1) (fun _ _ => rfl)) (pe_int) (fun _ _ => rfl)) (pa_nil))))))))) (pss_one (ps_raise1 M.k_NotThere tk (hr.mono h2k) rfl (pa_cons (pe_name 1) (pa_nil)))) (pss_nil)) (pss_cons (ps_set 3 sc_reduced_at.nd (pe_ix ix_seq ixT_ok (pe_ix ix_seq ixT_ok (pe_name 2) (pe_name 1) (fun _ _ => rfl)) (pe_int) (fun _ _ => rfl))) (pss_cons (ps_asg (pe_call F_reduced_measure (hr.mono hk_reduced_measure) tk rfl (pa_cons (pe_name 3) (pa_nil))) (pg_tup rfl (pgs_cons (pg_name 4 sc_reduced_at.nd) (pgs_cons (pg_name 5 sc_reduced_at.nd) (pgs_nil))))) (pss_cons (ps_set 6 sc_reduced_at.nd (pe_bin op_addT addT_ok (pe_name 1) (pe_callB call_lenT lenT_ok rfl M.len bt_len (pa_cons (pe_call F_walk (hr.mono hk_walk) tk rfl (pa_cons (pe_name 3) (pa_nil))) (pa_nil))))) (pss_cons (ps_asg (pe_call F_measure (hr.mono hk_measure) tk rfl (pa_cons (pe_bin op_addT addT_ok (pe_slice (pe_name 2) (po_none) (po_some (pe_name 1))) (pe_slice (pe_name 2) (po_some (pe_name 6)) (po_none))) (pa_nil))) (pg_tup rfl (pgs_cons (pg_name 7 sc_reduced_at.nd) (pgs_cons (pg_name 8 sc_reduced_at.nd) (pgs_nil))))) (pss_cons (ps_expr (pe_call F_refuse_great (hr.mono hk_refuse_great) tk rfl (pa_cons (pe_callB (call_max2 rfl) maxT_ok rfl M.max bt_max (pa_cons (pe_name 7) (pa_cons (pe_bin op_addT addT_ok (pe_bin op_sub1 subT_ok (pe_ix ix_seq ixT_ok (pe_ix ix_seq ixT_ok (pe_name 2) (pe_name 1) (fun _ _ => rfl)) (pe_int) (fun _ _ => rfl)) (pe_int)) (pe_name 4)) (pa_nil)))) (pa_cons (pe_bin op_addT addT_ok (pe_name 8) (pe_name 5)) (pa_nil))))) (pss_one (ps_ret (pe_call F_with_term (hr.mono hk_with_term) tk rfl (pa_cons (pe_name 0) (pa_cons (pe_name 1) (pa_cons (pe_call F_reduced_root (hr.mono hk_reduced_root) tk rfl (pa_cons (pe_name 3) (pa_nil))) (pa_nil)))))))))))))
theorem sc__law_mixed : FnScope ["number"] ["number"] (defScope f__law_mixed) := ⟨rfl, rfl, rfl, by decide +kernel, rfl, by decide +kernel, by decide +kernel⟩
theorem t__law_mixed {k : Nat} (M : Md P w K mg base) {cdv : Value} {A : Around} {outer : List Env} {s : Shared} {H : Hp} {E : XK} (hr : Room k (cxD P w K mg base ["number"] "_law_mixed" f__law_mixed cdv A outer s H E).A) (tk : Takes (cxD P w K mg base ["number"] "_law_mixed" f__law_mixed cdv A outer s H E) (wD E)) :
    PSst (cxD P w K mg base ["number"] "_law_mixed" f__law_mixed cdv A outer s H E) (wD E) (defBody f__law_mixed) (x__law_mixed) := by
  have hu : (cxD P w K mg base ["number"] "_law_mixed" f__law_mixed cdv A outer s H E).A.units + 65 < cLine := by have := hr.un; omega
  have hu4 : (cxD P w K mg base ["number"] "_law_mixed" f__law_mixed cdv A outer s H E).A.units + 64 < cLine := by have := hr.un; omega
  exact pss_cons (ps_set 0 sc__law_mixed.nd (pe_bin op_mod modT_ok (pe_callTy call_int1 toIntT_ok rfl M.int bt_int (pa_cons (pe_bin op_addT addT_ok (pe_bin op_mulT mulT_ok (pe_name 0) (pe_int)) (pe_int)) (pa_nil))) (pe_int))) (pss_cons (ps_set 0 sc__law_mixed.nd (pe_bin op_mod modT_ok (pe_callTy call_int1 toIntT_ok rfl M.int bt_int (pa_cons (pe_bin op_addT addT_ok (pe_bin op_mulT mulT_ok (pe_name 0) (pe_name 0)) (pe_bin op_fdivW divT_ok (pe_name 0) (pe_int))) (pa_nil))) (pe_int))) (pss_cons (ps_set 0 sc__law_mixed.nd (pe_bin op_mod modT_ok (pe_callTy call_int1 toIntT_ok rfl M.int bt_int (pa_cons (pe_bin op_addT addT_ok (pe_bin op_mulT mulT_ok (pe_bin op_mod modT_ok (pe_callTy call_int1 toIntT_ok rfl M.int bt_int (pa_cons (pe_name 0) (pa_nil))) (pe_int)) (pe_int)) (pe_bin op_fdivW divT_ok (pe_name 0) (pe_int))) (pa_nil))) (pe_int))) (pss_one (ps_ret (pe_bin op_mod modT_ok (pe_callTy call_int1 toIntT_ok rfl M.int bt_int (pa_cons (pe_bin op_addT addT_ok (pe_bin op_mulT mulT_ok (pe_name 0) (pe_int)) (pe_bin op_fdivW divT_ok (pe_name 0) (pe_int))) (pa_nil))) (pe_int))))))
theorem sc__law_store : FnScope ["script", "cells", "cell", "base"] ["script"] (defScope f__law_store) := ⟨rfl, rfl, rfl, by decide +kernel, rfl, by decide +kernel, by decide +kernel⟩
theorem t__law_store {k : Nat} (M : Md P w K mg base) {k__law_mixed : Nat} {g__law_mixed : PF} (F__law_mixed : Fn1 P w K mg base k__law_mixed "_law_mixed" ["number"] (spP K g__law_mixed)) (hk__law_mixed : k__law_mixed ≤ k) {cdv : Value} {A : Around} {outer : List Env} {s : Shared} {H : Hp} {E : XK} (hr : Room k (cxD P w K mg base ["script", "cells", "cell", "base"] "_law_store" f__law_store cdv A outer s H E).A) (tk : Takes (cxD P w K mg base ["script", "cells", "cell", "base"] "_law_store" f__law_store cdv A outer s H E) (wD E)) :
    PSst (cxD P w K mg base ["script", "cells", "cell", "base"] "_law_store" f__law_store cdv A outer s H E) (wD E) (defBody f__law_store) (x__law_store g__law_mixed) := by
  have hu : (cxD P w K mg base ["script", "cells", "cell", "base"] "_law_store" f__law_store cdv A outer s H E).A.units + 65 < cLine := by have := hr.un; omega
  have hu4 : (cxD P w K mg base ["script", "cells", "cell", "base"] "_law_store" f__law_store cdv A outer s H E).A.units + 64 < cLine := by have := hr.un; omega
  exact pss_cons (ps_setLc 1 (own := [("cell", 2)]) rfl sc__law_store.nd (pi_seq (pe_slice (pe_name 0) (po_none) (po_some (pe_int)))) (show BlkOk ["script", "cells", "cell", "base"] (defScope f__law_store) _ _ from ⟨rfl, by decide +kernel, by decide +kernel, by decide +kernel, by decide +kernel⟩) (by decide) (fun _ _ _ _ _ => pg_name 2 sc__law_store.nd) (fun _ _ _ _ _ => pts_nil) (fun _ _ _ _ _ => pe_callTy call_int1 toIntT_ok rfl M.int bt_int (pa_cons (pe_name 2) (pa_nil)))) (pss_cons (ps_set 3 sc__law_store.nd (pe_bin op_addT addT_ok (pe_int) (pe_callB call_lenT lenT_ok rfl M.len bt_len (pa_cons (pe_name 1) (pa_nil))))) (pss_cons (ps_for (passes_of rfl) rfl (pi_seq (pe_name 1)) (pg_name 2 sc__law_store.nd) (pss_one (ps_set 3 sc__law_store.nd (pe_call F__law_mixed (hr.mono hk__law_mixed) tk rfl (pa_cons (pe_bin op_addT addT_ok (pe_bin op_mulT mulT_ok (pe_name 3) (pe_int)) (pe_bin op_mod modT_ok (pe_callTy call_int1 toIntT_ok rfl M.int bt_int (pa_cons (pe_name 2) (pa_nil))) (pe_int))) (pa_nil)))))) (pss_one (ps_ret (pe_lst (pa_cons (pe_name 1) (pa_cons (pe_int) (pa_cons (pe_int) (pa_cons (pe_int) (pa_cons (pe_int) (pa_cons (pe_name 3) (pa_cons (pe_int) (pa_nil)))))))))))))
theorem sc__law_advance : FnScope ["store", "cell"] ["store"] (defScope f__law_advance) := ⟨rfl, rfl, rfl, by decide +kernel, rfl, by decide +kernel, by decide +kernel⟩
theorem t__law_advance {k : Nat} (M : Md P w K mg base) {cdv : Value} {A : Around} {outer : List Env} {s : Shared} {H : Hp} {E : XK} (hr : Room k (cxD P w K mg base ["store", "cell"] "_law_advance" f__law_advance cdv A outer s H E).A) (tk : Takes (cxD P w K mg base ["store", "cell"] "_law_advance" f__law_advance cdv A outer s H E) (wD E)) :
    PSst (cxD P w K mg base ["store", "cell"] "_law_advance" f__law_advance cdv A outer s H E) (wD E) (defBody f__law_advance) (x__law_advance) := by
  have hu : (cxD P w K mg base ["store", "cell"] "_law_advance" f__law_advance cdv A outer s H E).A.units + 65 < cLine := by have := hr.un; omega
  have hu4 : (cxD P w K mg base ["store", "cell"] "_law_advance" f__law_advance cdv A outer s H E).A.units + 64 < cLine := by have := hr.un; omega
  exact pss_cons (ps_set 1 sc__law_advance.nd (pe_callB call_abs absT_ok rfl M.abs bt_abs (pa_cons (pe_ix ix_seq ixT_ok (pe_ixN 0 (pe_int) (fun _ _ => rfl)) (pe_ixN 0 (pe_int) (fun _ _ => rfl)) (fun _ _ => rfl)) (pa_nil)))) (pss_cons (ps_asg (pe_bin op_mod modT_ok (pe_callTy call_int1 toIntT_ok rfl M.int bt_int (pa_cons (pe_ix ix_seq ixT_ok (pe_ixN 0 (pe_int) (fun _ _ => rfl)) (pe_ixN 0 (pe_int) (fun _ _ => rfl)) (fun _ _ => rfl)) (pa_nil))) (pe_int)) (pg_ixN 0 (pe_int))) (pss_cons (ps_asg (pe_bin op_addT addT_ok (pe_ixN 0 (pe_int) (fun _ _ => rfl)) (pe_int)) (pg_ixN 0 (pe_int))) (pss_cons (ps_asg (pe_int) (pg_ixN 0 (pe_int))) (pss_cons (ps_asg (pe_int) (pg_ixN 0 (pe_int))) (pss_one (ps_if (pt_cmp op_ge intT_ok (pe_name 1) (pe_bin op_powB powT_ok (pe_int) (pe_int)) (by rfl)) (pss_cons (ps_asg (pe_bin op_mod modT_ok (pe_callTy call_int1 toIntT_ok rfl M.int bt_int (pa_cons (pe_name 1) (pa_nil))) (pe_bin op_powB powT_ok (pe_bin op_powB powT_ok (pe_int) (pe_int)) (pe_int))) (pg_ixN 0 (pe_int))) (pss_one (ps_asg (pe_int) (pg_ixN 0 (pe_int))))) (pss_nil)))))))
theorem sc__law_take : FnScope ["store", "many", "number", "salt"] ["store", "many"] (defScope f__law_take) := ⟨rfl, rfl, rfl, by decide +kernel, rfl, by decide +kernel, by decide +kernel⟩
theorem t__law_take {k : Nat} (M : Md P w K mg base) {k__law_advance : Nat} {g__law_advance : IF} (F__law_advance : Fn1 P w K mg base k__law_advance "_law_advance" ["store"] (spI K g__law_advance)) (hk__law_advance : k__law_advance ≤ k) {k__law_mixed : Nat} {g__law_mixed : PF} (F__law_mixed : Fn1 P w K mg base k__law_mixed "_law_mixed" ["number"] (spP K g__law_mixed)) (hk__law_mixed : k__law_mixed ≤ k) {cdv : Value} {A : Around} {outer : List Env} {s : Shared} {H : Hp} {E : XK} (hr : Room k (cxD P w K mg base ["store", "many", "number", "salt"] "_law_take" f__law_take cdv A outer s H E).A) (tk : Takes (cxD P w K mg base ["store", "many", "number", "salt"] "_law_take" f__law_take cdv A outer s H E) (wD E)) :
    PSst (cxD P w K mg base ["store", "many", "number", "salt"] "_law_take" f__law_take cdv A outer s H E) (wD E) (defBody f__law_take) (x__law_take g__law_advance g__law_mixed) := by
  have hu : (cxD P w K mg base ["store", "many", "number", "salt"] "_law_take" f__law_take cdv A outer s H E).A.units + 65 < cLine := by have := hr.un; omega
  have hu4 : (cxD P w K mg base ["store", "many", "number", "salt"] "_law_take" f__law_take cdv A outer s H E).A.units + 64 < cLine := by have := hr.un; omega
  exact pss_cons (ps_if (pt_cmp op_lt intT_ok (pe_name 1) (pe_int) (by rfl)) (pss_one (ps_ret (pe_int))) (pss_nil)) (pss_cons (ps_if (pt_bor (PWt.pt (pw_and (pt_cmp (op_eqD hu4) eqT_ok (pe_ix ix_seq ixT_ok (pe_name 0) (pe_int) (fun _ _ => rfl)) (pe_int) (by rfl)) (pw_and1 (pt_cmp op_lt intT_ok (pe_ix ix_seq ixT_ok (pe_name 0) (pe_int) (fun _ _ => rfl)) (pe_callB call_lenT lenT_ok rfl M.len bt_len (pa_cons (pe_ix ix_seq ixT_ok (pe_name 0) (pe_int) (fun _ _ => rfl)) (pa_nil))) (by rfl)))))) (pss_one (ps_expr (pe_callI 0 F__law_advance (hr.mono hk__law_advance) tk rfl (pa_nil)))) (pss_nil)) (pss_cons (ps_asg (pe_bin op_addT addT_ok (pe_ixN 0 (pe_int) (fun _ _ => rfl)) (pe_int)) (pg_ixN 0 (pe_int))) (pss_cons (ps_set 2 sc__law_take.nd (pe_callTy call_int1 toIntT_ok rfl M.int bt_int (pa_cons (pe_ixN 0 (pe_int) (fun _ _ => rfl)) (pa_nil)))) (pss_cons (ps_if (pt_bor (pt_cmp (op_eqD hu4) eqT_ok (pe_ix ix_seq ixT_ok (pe_name 0) (pe_int) (fun _ _ => rfl)) (pe_int) (by rfl))) (pss_cons (ps_set 2 sc__law_take.nd (pe_int)) (pss_one (ps_asg (pe_int) (pg_ixN 0 (pe_int))))) (pss_one (ps_asg (pe_bin op_sub1 subT_ok (pe_ixN 0 (pe_int) (fun _ _ => rfl)) (pe_int)) (pg_ixN 0 (pe_int))))) (pss_cons (ps_if (pt_cmp op_gt intT_ok (pe_name 2) (pe_int) (by rfl)) (pss_cons (ps_asg (pe_bin op_fdivW divT_ok (pe_name 2) (pe_name 1)) (pg_ixN 0 (pe_int))) (pss_cons (ps_if (pt_bor (pt_cmp (op_eqD hu4) eqT_ok (pe_ix ix_seq ixT_ok (pe_name 0) (pe_int) (fun _ _ => rfl)) (pe_int) (by rfl))) (pss_one (ps_asg (pe_int) (pg_ixN 0 (pe_int)))) (pss_nil)) (pss_one (ps_ret (pe_bin op_mod modT_ok (pe_callTy call_int1 toIntT_ok rfl M.int bt_int (pa_cons (pe_name 2) (pa_nil))) (pe_name 1)))))) (pss_nil)) (pss_cons (ps_set 3 sc__law_take.nd (pe_ixN 0 (pe_int) (fun _ _ => rfl))) (pss_one (ps_ret (pe_bin op_mod modT_ok (pe_callTy call_int1 toIntT_ok rfl M.int bt_int (pa_cons (pe_call F__law_mixed (hr.mono hk__law_mixed) tk rfl (pa_cons (pe_bin op_addT addT_ok (pe_call F__law_mixed (hr.mono hk__law_mixed) tk rfl (pa_cons (pe_bin op_addT addT_ok (pe_bin op_addT addT_ok (pe_ixN 0 (pe_int) (fun _ _ => rfl)) (pe_bin op_mulT mulT_ok (pe_name 3) (pe_int))) (pe_bin op_mulT mulT_ok (pe_ixN 0 (pe_int) (fun _ _ => rfl)) (pe_int))) (pa_nil))) (pe_name 3)) (pa_nil))) (pa_nil))) (pe_name 1))))))))))
theorem sc__law_pick : FnScope ["store", "things"] ["store", "things"] (defScope f__law_pick) := ⟨rfl, rfl, rfl, by decide +kernel, rfl, by decide +kernel, by decide +kernel⟩
theorem t__law_pick {k : Nat} (M : Md P w K mg base) {k__law_take : Nat} {g__law_take : IF} (F__law_take : Fn1 P w K mg base k__law_take "_law_take" ["store", "many"] (spI K g__law_take)) (hk__law_take : k__law_take ≤ k) {cdv : Value} {A : Around} {outer : List Env} {s : Shared} {H : Hp} {E : XK} (hr : Room k (cxD P w K mg base ["store", "things"] "_law_pick" f__law_pick cdv A outer s H E).A) (tk : Takes (cxD P w K mg base ["store", "things"] "_law_pick" f__law_pick cdv A outer s H E) (wD E)) :
    PSst (cxD P w K mg base ["store", "things"] "_law_pick" f__law_pick cdv A outer s H E) (wD E) (defBody f__law_pick) (x__law_pick g__law_take) := by
  have hu : (cxD P w K mg base ["store", "things"] "_law_pick" f__law_pick cdv A outer s H E).A.units + 65 < cLine := by have := hr.un; omega
  have hu4 : (cxD P w K mg base ["store", "things"] "_law_pick" f__law_pick cdv A outer s H E).A.units + 64 < cLine := by have := hr.un; omega
  exact pss_one (ps_ret (pe_ix ix_seq ixT_ok (pe_name 1) (pe_callI 0 F__law_take (hr.mono hk__law_take) tk rfl (pa_cons (pe_callB call_lenT lenT_ok rfl M.len bt_len (pa_cons (pe_name 1) (pa_nil))) (pa_nil))) (fun _ _ => rfl)))
theorem sc__law_amount : FnScope ["store", "low", "high", "way"] ["store", "low", "high"] (defScope f__law_amount) := ⟨rfl, rfl, rfl, by decide +kernel, rfl, by decide +kernel, by decide +kernel⟩
theorem t__law_amount {k : Nat} (M : Md P w K mg base) {k__law_take : Nat} {g__law_take : IF} (F__law_take : Fn1 P w K mg base k__law_take "_law_take" ["store", "many"] (spI K g__law_take)) (hk__law_take : k__law_take ≤ k) {cdv : Value} {A : Around} {outer : List Env} {s : Shared} {H : Hp} {E : XK} (hr : Room k (cxD P w K mg base ["store", "low", "high", "way"] "_law_amount" f__law_amount cdv A outer s H E).A) (tk : Takes (cxD P w K mg base ["store", "low", "high", "way"] "_law_amount" f__law_amount cdv A outer s H E) (wD E)) :
    PSst (cxD P w K mg base ["store", "low", "high", "way"] "_law_amount" f__law_amount cdv A outer s H E) (wD E) (defBody f__law_amount) (x__law_amount g__law_take) := by
  have hu : (cxD P w K mg base ["store", "low", "high", "way"] "_law_amount" f__law_amount cdv A outer s H E).A.units + 65 < cLine := by have := hr.un; omega
  have hu4 : (cxD P w K mg base ["store", "low", "high", "way"] "_law_amount" f__law_amount cdv A outer s H E).A.units + 64 < cLine := by have := hr.un; omega
  exact pss_cons (ps_if (pt_cmp op_le intT_ok (pe_name 2) (pe_name 1) (by rfl)) (pss_one (ps_ret (pe_name 1))) (pss_nil)) (pss_cons (ps_set 3 sc__law_amount.nd (pe_callI 0 F__law_take (hr.mono hk__law_take) tk rfl (pa_cons (pe_int) (pa_nil)))) (pss_cons (ps_if (pt_cmp (op_eqD hu4) eqT_ok (pe_name 3) (pe_int) (by rfl)) (pss_one (ps_ret (pe_name 1))) (pss_nil)) (pss_cons (ps_if (pt_cmp (op_eqD hu4) eqT_ok (pe_name 3) (pe_int) (by rfl)) (pss_one (ps_ret (pe_name 2))) (pss_nil)) (pss_one (ps_ret (pe_bin op_addT addT_ok (pe_name 1) (pe_callI 0 F__law_take (hr.mono hk__law_take) tk rfl (pa_cons (pe_bin op_addT addT_ok (pe_bin op_sub1 subT_ok (pe_name 2) (pe_name 1)) (pe_int)) (pa_nil)))))))))
theorem sc__law_letters : FnScope ["store", "many", "out", "turn"] ["store", "many"] (defScope f__law_letters) := ⟨rfl, rfl, rfl, by decide +kernel, rfl, by decide +kernel, by decide +kernel⟩
theorem t__law_letters {k : Nat} (M : Md P w K mg base) {k__law_take : Nat} {g__law_take : IF} (F__law_take : Fn1 P w K mg base k__law_take "_law_take" ["store", "many"] (spI K g__law_take)) (hk__law_take : k__law_take ≤ k) {cdv : Value} {A : Around} {outer : List Env} {s : Shared} {H : Hp} {E : XK} (hr : Room k (cxD P w K mg base ["store", "many", "out", "turn"] "_law_letters" f__law_letters cdv A outer s H E).A) (tk : Takes (cxD P w K mg base ["store", "many", "out", "turn"] "_law_letters" f__law_letters cdv A outer s H E) (wD E)) :
    PSst (cxD P w K mg base ["store", "many", "out", "turn"] "_law_letters" f__law_letters cdv A outer s H E) (wD E) (defBody f__law_letters) (x__law_letters g__law_take) := by
  have hu : (cxD P w K mg base ["store", "many", "out", "turn"] "_law_letters" f__law_letters cdv A outer s H E).A.units + 65 < cLine := by have := hr.un; omega
  have hu4 : (cxD P w K mg base ["store", "many", "out", "turn"] "_law_letters" f__law_letters cdv A outer s H E).A.units + 64 < cLine := by have := hr.un; omega
  exact pss_cons (ps_set 2 sc__law_letters.nd (pe_str)) (pss_cons (ps_for (passes_of rfl) rfl (pi_range1 rfl M.range (pa_cons (pe_name 1) (pa_nil))) (pg_name 3 sc__law_letters.nd) (pss_one (ps_set 2 sc__law_letters.nd (pe_bin op_addT addT_ok (pe_name 2) (pe_ix ix_seq ixT_ok (pe_str) (pe_callI 0 F__law_take (hr.mono hk__law_take) tk rfl (pa_cons (pe_int) (pa_nil))) (fun _ _ => rfl)))))) (pss_one (ps_ret (pe_name 2))))
theorem sc__law_leaf : FnScope ["store", "kinds", "many"] ["store", "kinds", "many"] (defScope f__law_leaf) := ⟨rfl, rfl, rfl, by decide +kernel, rfl, by decide +kernel, by decide +kernel⟩
theorem t__law_leaf {k : Nat} (M : Md P w K mg base) {k__law_take : Nat} {g__law_take : IF} (F__law_take : Fn1 P w K mg base k__law_take "_law_take" ["store", "many"] (spI K g__law_take)) (hk__law_take : k__law_take ≤ k) {k__law_pick : Nat} {g__law_pick : IF} (F__law_pick : Fn1 P w K mg base k__law_pick "_law_pick" ["store", "things"] (spI K g__law_pick)) (hk__law_pick : k__law_pick ≤ k) {cdv : Value} {A : Around} {outer : List Env} {s : Shared} {H : Hp} {E : XK} (hr : Room k (cxD P w K mg base ["store", "kinds", "many"] "_law_leaf" f__law_leaf cdv A outer s H E).A) (tk : Takes (cxD P w K mg base ["store", "kinds", "many"] "_law_leaf" f__law_leaf cdv A outer s H E) (wD E)) :
    PSst (cxD P w K mg base ["store", "kinds", "many"] "_law_leaf" f__law_leaf cdv A outer s H E) (wD E) (defBody f__law_leaf) (x__law_leaf g__law_take g__law_pick) := by
  have hu : (cxD P w K mg base ["store", "kinds", "many"] "_law_leaf" f__law_leaf cdv A outer s H E).A.units + 65 < cLine := by have := hr.un; omega
  have hu4 : (cxD P w K mg base ["store", "kinds", "many"] "_law_leaf" f__law_leaf cdv A outer s H E).A.units + 64 < cLine := by have := hr.un; omega
  exact pss_cons (ps_if (PWt.pt (pw_and (pt_cmp op_gt intT_ok (pe_name 2) (pe_int) (by rfl)) (pw_and1 (PWt.pt (pw_or (pt_cmp (op_eqD hu4) eqT_ok (pe_callB call_lenT lenT_ok rfl M.len bt_len (pa_cons (pe_name 1) (pa_nil))) (pe_int) (by rfl)) (pw_or1 (pt_cmp (op_eqD hu4) eqT_ok (pe_callI 0 F__law_take (hr.mono hk__law_take) tk rfl (pa_cons (pe_int) (pa_nil))) (pe_int) (by rfl)))))))) (pss_one (ps_ret (pe_tup (pa_cons (pe_str) (pa_cons (pe_callI 0 F__law_take (hr.mono hk__law_take) tk rfl (pa_cons (pe_name 2) (pa_nil))) (pa_nil)))))) (pss_nil)) (pss_one (ps_ret (pe_tup (pa_cons (pe_str) (pa_cons (pe_callI 0 F__law_pick (hr.mono hk__law_pick) tk rfl (pa_cons (pe_name 1) (pa_nil))) (pa_nil))))))
theorem sc__law_form : FnScope ["store", "kinds", "many", "steps", "stack", "turn", "way", "two"] ["store", "kinds", "many", "steps"] (defScope f__law_form) := ⟨rfl, rfl, rfl, by decide +kernel, rfl, by decide +kernel, by decide +kernel⟩
theorem t__law_form {k : Nat} (M : Md P w K mg base) {k__law_take : Nat} {g__law_take : IF} (F__law_take : Fn1 P w K mg base k__law_take "_law_take" ["store", "many"] (spI K g__law_take)) (hk__law_take : k__law_take ≤ k) {k__law_leaf : Nat} {g__law_leaf : IF} (F__law_leaf : Fn1 P w K mg base k__law_leaf "_law_leaf" ["store", "kinds", "many"] (spI K g__law_leaf)) (hk__law_leaf : k__law_leaf ≤ k) {k__law_pick : Nat} {g__law_pick : IF} (F__law_pick : Fn1 P w K mg base k__law_pick "_law_pick" ["store", "things"] (spI K g__law_pick)) (hk__law_pick : k__law_pick ≤ k) {cdv : Value} {A : Around} {outer : List Env} {s : Shared} {H : Hp} {E : XK} (hr : Room k (cxD P w K mg base ["store", "kinds", "many", "steps", "stack", "turn", "way", "two"] "_law_form" f__law_form cdv A outer s H E).A) (tk : Takes (cxD P w K mg base ["store", "kinds", "many", "steps", "stack", "turn", "way", "two"] "_law_form" f__law_form cdv A outer s H E) (wD E)) :
    PSst (cxD P w K mg base ["store", "kinds", "many", "steps", "stack", "turn", "way", "two"] "_law_form" f__law_form cdv A outer s H E) (wD E) (defBody f__law_form) (x__law_form g__law_take g__law_leaf g__law_pick) := by
  have hu : (cxD P w K mg base ["store", "kinds", "many", "steps", "stack", "turn", "way", "two"] "_law_form" f__law_form cdv A outer s H E).A.units + 65 < cLine := by have := hr.un; omega
  have hu4 : (cxD P w K mg base ["store", "kinds", "many", "steps", "stack", "turn", "way", "two"] "_law_form" f__law_form cdv A outer s H E).A.units + 64 < cLine := by have := hr.un; omega
  exact pss_cons (ps_set 4 sc__law_form.nd (pe_lst (pa_nil))) (pss_cons (ps_for (passes_of rfl) rfl (pi_range1 rfl M.range (pa_cons (pe_callB (call_max2 rfl) maxT_ok rfl M.max bt_max (pa_cons (pe_int) (pa_cons (pe_callTy call_int1 toIntT_ok rfl M.int bt_int (pa_cons (pe_name 3) (pa_nil))) (pa_nil)))) (pa_nil))) (pg_name 5 sc__law_form.nd) (pss_cons (ps_set 6 sc__law_form.nd (pe_int)) (pss_cons (ps_if (pt_bor (pt_cmp op_gt intT_ok (pe_callB call_lenT lenT_ok rfl M.len bt_len (pa_cons (pe_name 4) (pa_nil))) (pe_int) (by rfl))) (pss_one (ps_set 6 sc__law_form.nd (pe_callI 0 F__law_take (hr.mono hk__law_take) tk rfl (pa_cons (pe_int) (pa_nil))))) (pss_nil)) (pss_one (ps_if (pt_bor (PWt.pt (pw_or (pt_cmp op_lt intT_ok (pe_name 6) (pe_int) (by rfl)) (pw_or1 (PWt.pt (pw_and (pt_cmp op_lt intT_ok (pe_name 6) (pe_int) (by rfl)) (pw_and1 (pt_cmp op_lt intT_ok (pe_callB call_lenT lenT_ok rfl M.len bt_len (pa_cons (pe_name 4) (pa_nil))) (pe_int) (by rfl))))))))) (pss_one (ps_expr (pe_app 4 (pa_cons (pe_callI 0 F__law_leaf (hr.mono hk__law_leaf) tk rfl (pa_cons (pe_name 1) (pa_cons (pe_name 2) (pa_nil)))) (pa_nil))))) (pss_one (ps_if (pt_cmp (op_eqD hu4) eqT_ok (pe_name 6) (pe_int) (by rfl)) (pss_one (ps_expr (pe_app 4 (pa_cons (pe_tup (pa_cons (pe_str) (pa_cons (pe_pop 4) (pa_nil)))) (pa_nil))))) (pss_cons (ps_set 7 sc__law_form.nd (pe_pop 4)) (pss_one (ps_expr (pe_app 4 (pa_cons (pe_tup (pa_cons (pe_ix ix_seq ixT_ok (pe_lst (pa_cons (pe_str) (pa_cons (pe_str) (pa_nil)))) (pe_bin op_sub1 subT_ok (pe_name 6) (pe_int)) (fun _ _ => rfl)) (pa_cons (pe_pop 4) (pa_cons (pe_name 7) (pa_nil))))) (pa_nil))))))))))))) (pss_cons (ps_for (passes_of rfl) rfl (pi_range1 rfl M.range (pa_cons (pe_bin op_sub1 subT_ok (pe_bor (pe_callB call_lenT lenT_ok rfl M.len bt_len (pa_cons (pe_name 4) (pa_nil)))) (pe_int)) (pa_nil))) (pg_name 5 sc__law_form.nd) (pss_cons (ps_set 7 sc__law_form.nd (pe_pop 4)) (pss_one (ps_expr (pe_app 4 (pa_cons (pe_tup (pa_cons (pe_callI 0 F__law_pick (hr.mono hk__law_pick) tk rfl (pa_cons (pe_lst (pa_cons (pe_str) (pa_cons (pe_str) (pa_nil)))) (pa_nil))) (pa_cons (pe_pop 4) (pa_cons (pe_name 7) (pa_nil))))) (pa_nil))))))) (pss_one (ps_ret (pe_ixN 4 (pe_int) (fun _ _ => rfl))))))
theorem sc__law_ground : FnScope ["store", "kinds"] ["store", "kinds"] (defScope f__law_ground) := ⟨rfl, rfl, rfl, by decide +kernel, rfl, by decide +kernel, by decide +kernel⟩
theorem t__law_ground {k : Nat} (M : Md P w K mg base) {k__law_form : Nat} {g__law_form : IF} (F__law_form : Fn1 P w K mg base k__law_form "_law_form" ["store", "kinds", "many", "steps"] (spI K g__law_form)) (hk__law_form : k__law_form ≤ k) {k__law_take : Nat} {g__law_take : IF} (F__law_take : Fn1 P w K mg base k__law_take "_law_take" ["store", "many"] (spI K g__law_take)) (hk__law_take : k__law_take ≤ k) {cdv : Value} {A : Around} {outer : List Env} {s : Shared} {H : Hp} {E : XK} (hr : Room k (cxD P w K mg base ["store", "kinds"] "_law_ground" f__law_ground cdv A outer s H E).A) (tk : Takes (cxD P w K mg base ["store", "kinds"] "_law_ground" f__law_ground cdv A outer s H E) (wD E)) :
    PSst (cxD P w K mg base ["store", "kinds"] "_law_ground" f__law_ground cdv A outer s H E) (wD E) (defBody f__law_ground) (x__law_ground g__law_form g__law_take) := by
  have hu : (cxD P w K mg base ["store", "kinds"] "_law_ground" f__law_ground cdv A outer s H E).A.units + 65 < cLine := by have := hr.un; omega
  have hu4 : (cxD P w K mg base ["store", "kinds"] "_law_ground" f__law_ground cdv A outer s H E).A.units + 64 < cLine := by have := hr.un; omega
  exact pss_one (ps_ret (pe_callI 0 F__law_form (hr.mono hk__law_form) tk rfl (pa_cons (pe_name 1) (pa_cons (pe_int) (pa_cons (pe_ix ix_seq ixT_ok (pe_lst (pa_cons (pe_int) (pa_cons (pe_int) (pa_cons (pe_int) (pa_cons (pe_int) (pa_cons (pe_int) (pa_cons (pe_int) (pa_nil)))))))) (pe_callI 0 F__law_take (hr.mono hk__law_take) tk rfl (pa_cons (pe_int) (pa_nil))) (fun _ _ => rfl)) (pa_nil))))))
theorem sc__law_same : FnScope ["one", "two", "todo", "turn", "a", "b", "k"] ["one", "two"] (defScope f__law_same) := ⟨rfl, rfl, rfl, by decide +kernel, rfl, by decide +kernel, by decide +kernel⟩
theorem t__law_same {k : Nat} (M : Md P w K mg base) {cdv : Value} {A : Around} {outer : List Env} {s : Shared} {H : Hp} {E : XK} (hr : Room k (cxD P w K mg base ["one", "two", "todo", "turn", "a", "b", "k"] "_law_same" f__law_same cdv A outer s H E).A) (tk : Takes (cxD P w K mg base ["one", "two", "todo", "turn", "a", "b", "k"] "_law_same" f__law_same cdv A outer s H E) (wD E)) :
    PSst (cxD P w K mg base ["one", "two", "todo", "turn", "a", "b", "k"] "_law_same" f__law_same cdv A outer s H E) (wD E) (defBody f__law_same) (x__law_same) := by
  have hu : (cxD P w K mg base ["one", "two", "todo", "turn", "a", "b", "k"] "_law_same" f__law_same cdv A outer s H E).A.units + 65 < cLine := by have := hr.un; omega
  have hu4 : (cxD P w K mg base ["one", "two", "todo", "turn", "a", "b", "k"] "_law_same" f__law_same cdv A outer s H E).A.units + 64 < cLine := by have := hr.un; omega
  exact pss_cons (ps_set 2 sc__law_same.nd (pe_lst (pa_cons (pe_tup (pa_cons (pe_name 0) (pa_cons (pe_name 1) (pa_nil)))) (pa_nil)))) (pss_cons (ps_for (passes_of rfl) rfl (pi_range1 rfl M.range (pa_cons (pe_int) (pa_nil))) (pg_name 3 sc__law_same.nd) (pss_cons (ps_if (pt_bor (pt_cmp (op_eqD hu4) eqT_ok (pe_callB call_lenT lenT_ok rfl M.len bt_len (pa_cons (pe_name 2) (pa_nil))) (pe_int) (by rfl))) (pss_one (ps_ret (pe_bl))) (pss_nil)) (pss_cons (ps_asg (pe_pop 2) (pg_tup rfl (pgs_cons (pg_name 4 sc__law_same.nd) (pgs_cons (pg_name 5 sc__law_same.nd) (pgs_nil))))) (pss_one (ps_if (PWt.pt (pw_or (pt_cmp op_isN isNT_ok (pe_name 4) (pe_non) (by rfl)) (pw_or1 (pt_cmp op_isN isNT_ok (pe_name 5) (pe_non) (by rfl))))) (pss_one (ps_if (PWt.pt (pw_or (pt_cmp op_notN notNT_ok (pe_name 4) (pe_non) (by rfl)) (pw_or1 (pt_cmp op_notN notNT_ok (pe_name 5) (pe_non) (by rfl))))) (pss_one (ps_ret (pe_bl))) (pss_nil))) (pss_one (ps_if (pt_tru (pe_isi2 (c := .list) (d := .tuple) rfl M.isinstance rfl M.list bt_list rfl M.tuple bt_tuple (pe_name 4))) (pss_cons (ps_if (PWt.pt (pw_or (pt_not (pt_tru (pe_isi2 (c := .list) (d := .tuple) rfl M.isinstance rfl M.list bt_list rfl M.tuple bt_tuple (pe_name 5)))) (pw_or (pt_cmp (op_neD hu4) neT_ok (pe_isi (c := .list) rfl M.isinstance rfl M.list bt_list (pe_name 4)) (pe_isi (c := .list) rfl M.isinstance rfl M.list bt_list (pe_name 5)) (by rfl)) (pw_or1 (pt_cmp (op_neD hu4) neT_ok (pe_callB call_lenT lenT_ok rfl M.len bt_len (pa_cons (pe_name 4) (pa_nil))) (pe_callB call_lenT lenT_ok rfl M.len bt_len (pa_cons (pe_name 5) (pa_nil))) (by rfl)))))) (pss_one (ps_ret (pe_bl))) (pss_nil)) (pss_one (ps_for (passes_of rfl) rfl (pi_range1 rfl M.range (pa_cons (pe_callB call_lenT lenT_ok rfl M.len bt_len (pa_cons (pe_name 4) (pa_nil))) (pa_nil))) (pg_name 6 sc__law_same.nd) (pss_one (ps_expr (pe_app 2 (pa_cons (pe_tup (pa_cons (pe_ix ix_seq ixT_ok (pe_name 4) (pe_name 6) (fun _ _ => rfl)) (pa_cons (pe_ix ix_seq ixT_ok (pe_name 5) (pe_name 6) (fun _ _ => rfl)) (pa_nil)))) (pa_nil)))))))) (pss_one (ps_if (pt_tru (pe_isi (c := .str) rfl M.isinstance rfl M.str bt_str (pe_name 4))) (pss_one (ps_if (PWt.pt (pw_or (pt_not (pt_tru (pe_isi (c := .str) rfl M.isinstance rfl M.str bt_str (pe_name 5)))) (pw_or1 (pt_cmp (op_neD hu4) neT_ok (pe_name 4) (pe_name 5) (by rfl))))) (pss_one (ps_ret (pe_bl))) (pss_nil))) (pss_one (ps_if (pt_tru (pe_isi (c := .int) rfl M.isinstance rfl M.int bt_int (pe_name 4))) (pss_one (ps_if (PWt.pt (pw_or (pt_not (pt_tru (pe_isi (c := .int) rfl M.isinstance rfl M.int bt_int (pe_name 5)))) (pw_or (pt_cmp (op_neD hu4) neT_ok (pe_isi (c := .bool) rfl M.isinstance rfl M.bool bt_bool (pe_name 4)) (pe_isi (c := .bool) rfl M.isinstance rfl M.bool bt_bool (pe_name 5)) (by rfl)) (pw_or1 (pt_cmp (op_neD hu4) neT_ok (pe_name 4) (pe_name 5) (by rfl)))))) (pss_one (ps_ret (pe_bl))) (pss_nil))) (pss_one (ps_ret (pe_bl)))))))))))))) (pss_one (ps_ret (pe_bl))))
theorem sc__law_arity : FnScope ["word"] ["word"] (defScope f__law_arity) := ⟨rfl, rfl, rfl, by decide +kernel, rfl, by decide +kernel, by decide +kernel⟩
theorem t__law_arity {k : Nat} (M : Md P w K mg base) {cdv : Value} {A : Around} {outer : List Env} {s : Shared} {H : Hp} {E : XK} (hr : Room k (cxD P w K mg base ["word"] "_law_arity" f__law_arity cdv A outer s H E).A) (tk : Takes (cxD P w K mg base ["word"] "_law_arity" f__law_arity cdv A outer s H E) (wD E)) :
    PSst (cxD P w K mg base ["word"] "_law_arity" f__law_arity cdv A outer s H E) (wD E) (defBody f__law_arity) (x__law_arity) := by
  have hu : (cxD P w K mg base ["word"] "_law_arity" f__law_arity cdv A outer s H E).A.units + 65 < cLine := by have := hr.un; omega
  have hu4 : (cxD P w K mg base ["word"] "_law_arity" f__law_arity cdv A outer s H E).A.units + 64 < cLine := by have := hr.un; omega
  exact pss_cons (ps_if (pt_cmp (op_inT hu) inT_ok (pe_name 0) (pe_lst (pa_cons (pe_str) (pa_cons (pe_str) (pa_cons (pe_str) (pa_cons (pe_str) (pa_nil)))))) (by rfl)) (pss_one (ps_ret (pe_int))) (pss_nil)) (pss_cons (ps_if (pt_cmp (op_inT hu) inT_ok (pe_name 0) (pe_lst (pa_cons (pe_str) (pa_cons (pe_str) (pa_nil)))) (by rfl)) (pss_one (ps_ret (pe_int))) (pss_nil)) (pss_cons (ps_if (pt_cmp (op_eqD hu4) eqT_ok (pe_name 0) (pe_str) (by rfl)) (pss_one (ps_ret (pe_int))) (pss_nil)) (pss_one (ps_ret (pe_int)))))
theorem sc__law_term : FnScope ["heads", "stack", "k", "head", "parts", "turn"] ["heads"] (defScope f__law_term) := ⟨rfl, rfl, rfl, by decide +kernel, rfl, by decide +kernel, by decide +kernel⟩
theorem t__law_term {k : Nat} (M : Md P w K mg base) {k__law_arity : Nat} {g__law_arity : PF} (F__law_arity : Fn1 P w K mg base k__law_arity "_law_arity" ["word"] (spP K g__law_arity)) (hk__law_arity : k__law_arity ≤ k) {cdv : Value} {A : Around} {outer : List Env} {s : Shared} {H : Hp} {E : XK} (hr : Room k (cxD P w K mg base ["heads", "stack", "k", "head", "parts", "turn"] "_law_term" f__law_term cdv A outer s H E).A) (tk : Takes (cxD P w K mg base ["heads", "stack", "k", "head", "parts", "turn"] "_law_term" f__law_term cdv A outer s H E) (wD E)) :
    PSst (cxD P w K mg base ["heads", "stack", "k", "head", "parts", "turn"] "_law_term" f__law_term cdv A outer s H E) (wD E) (defBody f__law_term) (x__law_term g__law_arity) := by
  have hu : (cxD P w K mg base ["heads", "stack", "k", "head", "parts", "turn"] "_law_term" f__law_term cdv A outer s H E).A.units + 65 < cLine := by have := hr.un; omega
  have hu4 : (cxD P w K mg base ["heads", "stack", "k", "head", "parts", "turn"] "_law_term" f__law_term cdv A outer s H E).A.units + 64 < cLine := by have := hr.un; omega
  exact pss_cons (ps_set 1 sc__law_term.nd (pe_lst (pa_nil))) (pss_cons (ps_for (passes_of rfl) rfl (pi_range3 rfl M.range (pa_cons (pe_bin op_sub1 subT_ok (pe_callB call_lenT lenT_ok rfl M.len bt_len (pa_cons (pe_name 0) (pa_nil))) (pe_int)) (pa_cons (pe_neg (pe_int)) (pa_cons (pe_neg (pe_int)) (pa_nil))))) (pg_name 2 sc__law_term.nd) (pss_cons (ps_set 3 sc__law_term.nd (pe_ix ix_seq ixT_ok (pe_name 0) (pe_name 2) (fun _ _ => rfl))) (pss_cons (ps_setLc 4 (own := [("turn", 5)]) rfl sc__law_term.nd (pi_range1 rfl M.range (pa_cons (pe_call F__law_arity (hr.mono hk__law_arity) tk rfl (pa_cons (pe_ix ix_seq ixT_ok (pe_name 3) (pe_int) (fun _ _ => rfl)) (pa_nil))) (pa_nil))) (show BlkOk ["heads", "stack", "k", "head", "parts", "turn"] (defScope f__law_term) _ _ from ⟨rfl, by decide +kernel, by decide +kernel, by decide +kernel, by decide +kernel⟩) (by decide) (fun _ _ _ _ _ => pg_name 5 sc__law_term.nd) (fun _ _ _ _ _ => pts_nil) (fun _ _ _ _ _ => pe_pop 1)) (pss_one (ps_if (pt_cmp (op_eqD hu4) eqT_ok (pe_ix ix_seq ixT_ok (pe_name 3) (pe_int) (fun _ _ => rfl)) (pe_str) (by rfl)) (pss_one (ps_expr (pe_app 1 (pa_cons (pe_tup (pa_cons (pe_str) (pa_cons (pe_ix ix_seq ixT_ok (pe_name 4) (pe_int) (fun _ _ => rfl)) (pa_cons (pe_ix ix_seq ixT_ok (pe_name 3) (pe_int) (fun _ _ => rfl)) (pa_nil))))) (pa_nil))))) (pss_one (ps_expr (pe_app 1 (pa_cons (pe_bin op_addT addT_ok (pe_name 3) (pe_callTy call_tuple_of tupleT_ok rfl M.tuple bt_tuple (pa_cons (pe_name 4) (pa_nil)))) (pa_nil)))))))))) (pss_one (ps_ret (pe_ixN 1 (pe_int) (fun _ _ => rfl)))))
theorem sc__law_end_head : FnScope ["store", "names", "consts", "uses", "scope", "free", "way"] ["store", "names", "consts", "uses", "scope", "free", "way"] (defScope f__law_end_head) := ⟨rfl, rfl, rfl, by decide +kernel, rfl, by decide +kernel, by decide +kernel⟩
theorem t__law_end_head {k : Nat} (M : Md P w K mg base) {k__law_take : Nat} {g__law_take : IF} (F__law_take : Fn1 P w K mg base k__law_take "_law_take" ["store", "many"] (spI K g__law_take)) (hk__law_take : k__law_take ≤ k) {k__law_pick : Nat} {g__law_pick : IF} (F__law_pick : Fn1 P w K mg base k__law_pick "_law_pick" ["store", "things"] (spI K g__law_pick)) (hk__law_pick : k__law_pick ≤ k) {cdv : Value} {A : Around} {outer : List Env} {s : Shared} {H : Hp} {E : XK} (hr : Room k (cxD P w K mg base ["store", "names", "consts", "uses", "scope", "free", "way"] "_law_end_head" f__law_end_head cdv A outer s H E).A) (tk : Takes (cxD P w K mg base ["store", "names", "consts", "uses", "scope", "free", "way"] "_law_end_head" f__law_end_head cdv A outer s H E) (wD E)) :
    PSst (cxD P w K mg base ["store", "names", "consts", "uses", "scope", "free", "way"] "_law_end_head" f__law_end_head cdv A outer s H E) (wD E) (defBody f__law_end_head) (x__law_end_head g__law_take g__law_pick) := by
  have hu : (cxD P w K mg base ["store", "names", "consts", "uses", "scope", "free", "way"] "_law_end_head" f__law_end_head cdv A outer s H E).A.units + 65 < cLine := by have := hr.un; omega
  have hu4 : (cxD P w K mg base ["store", "names", "consts", "uses", "scope", "free", "way"] "_law_end_head" f__law_end_head cdv A outer s H E).A.units + 64 < cLine := by have := hr.un; omega
  exact pss_cons (ps_if (PWt.pt (pw_and (pt_tru (pe_name 5)) (pw_and1 (pt_cmp (op_eqD hu4) eqT_ok (pe_callI 0 F__law_take (hr.mono hk__law_take) tk rfl (pa_cons (pe_int) (pa_nil))) (pe_int) (by rfl))))) (pss_one (ps_ret (pe_tup (pa_cons (pe_str) (pa_cons (pe_callI 0 F__law_pick (hr.mono hk__law_pick) tk rfl (pa_cons (pe_name 1) (pa_nil))) (pa_nil)))))) (pss_nil)) (pss_cons (ps_if (PWt.pt (pw_and (pt_cmp (op_eqD hu4) eqT_ok (pe_name 6) (pe_int) (by rfl)) (pw_and1 (pt_cmp op_gt intT_ok (pe_callB call_lenT lenT_ok rfl M.len bt_len (pa_cons (pe_name 2) (pa_nil))) (pe_int) (by rfl))))) (pss_one (ps_ret (pe_tup (pa_cons (pe_str) (pa_cons (pe_callI 0 F__law_pick (hr.mono hk__law_pick) tk rfl (pa_cons (pe_name 2) (pa_nil))) (pa_nil)))))) (pss_nil)) (pss_cons (ps_if (PWt.pt (pw_and (pt_cmp (op_eqD hu4) eqT_ok (pe_name 6) (pe_int) (by rfl)) (pw_and1 (pt_cmp op_gt intT_ok (pe_callB call_lenT lenT_ok rfl M.len bt_len (pa_cons (pe_name 3) (pa_nil))) (pe_int) (by rfl))))) (pss_one (ps_ret (pe_tup (pa_cons (pe_str) (pa_cons (pe_callI 0 F__law_pick (hr.mono hk__law_pick) tk rfl (pa_cons (pe_name 3) (pa_nil))) (pa_nil)))))) (pss_nil)) (pss_cons (ps_if (PWt.pt (pw_and (pt_cmp (op_neD hu4) neT_ok (pe_name 6) (pe_int) (by rfl)) (pw_and1 (pt_cmp op_gt intT_ok (pe_callB call_lenT lenT_ok rfl M.len bt_len (pa_cons (pe_name 4) (pa_nil))) (pe_int) (by rfl))))) (pss_one (ps_ret (pe_tup (pa_cons (pe_str) (pa_cons (pe_callI 0 F__law_pick (hr.mono hk__law_pick) tk rfl (pa_cons (pe_name 4) (pa_nil))) (pa_nil)))))) (pss_nil)) (pss_cons (ps_if (PWt.pt (pw_and (pt_cmp op_gt intT_ok (pe_callB call_lenT lenT_ok rfl M.len bt_len (pa_cons (pe_name 2) (pa_nil))) (pe_int) (by rfl)) (pw_and1 (pt_cmp (op_eqD hu4) eqT_ok (pe_callI 0 F__law_take (hr.mono hk__law_take) tk rfl (pa_cons (pe_int) (pa_nil))) (pe_int) (by rfl))))) (pss_one (ps_ret (pe_tup (pa_cons (pe_str) (pa_cons (pe_callI 0 F__law_pick (hr.mono hk__law_pick) tk rfl (pa_cons (pe_name 2) (pa_nil))) (pa_nil)))))) (pss_nil)) (pss_one (ps_ret (pe_tup (pa_cons (pe_str) (pa_nil)))))))))
theorem sc__law_some_heads : FnScope ["store", "names", "consts", "uses", "kinds", "size", "deep", "free", "inner", "out", "todo", "turn", "scope", "depth", "room", "way", "word", "head", "k"] ["store", "names", "consts", "uses", "kinds", "size", "deep", "free"] (defScope f__law_some_heads) := ⟨rfl, rfl, rfl, by decide +kernel, rfl, by decide +kernel, by decide +kernel⟩
theorem t__law_some_heads {k : Nat} (M : Md P w K mg base) {k__law_take : Nat} {g__law_take : IF} (F__law_take : Fn1 P w K mg base k__law_take "_law_take" ["store", "many"] (spI K g__law_take)) (hk__law_take : k__law_take ≤ k) {k__law_arity : Nat} {g__law_arity : PF} (F__law_arity : Fn1 P w K mg base k__law_arity "_law_arity" ["word"] (spP K g__law_arity)) (hk__law_arity : k__law_arity ≤ k) {k__law_end_head : Nat} {g__law_end_head : IF} (F__law_end_head : Fn1 P w K mg base k__law_end_head "_law_end_head" ["store", "names", "consts", "uses", "scope", "free", "way"] (spI K g__law_end_head)) (hk__law_end_head : k__law_end_head ≤ k) {k__law_pick : Nat} {g__law_pick : IF} (F__law_pick : Fn1 P w K mg base k__law_pick "_law_pick" ["store", "things"] (spI K g__law_pick)) (hk__law_pick : k__law_pick ≤ k) {k__law_ground : Nat} {g__law_ground : IF} (F__law_ground : Fn1 P w K mg base k__law_ground "_law_ground" ["store", "kinds"] (spI K g__law_ground)) (hk__law_ground : k__law_ground ≤ k) {cdv : Value} {A : Around} {outer : List Env} {s : Shared} {H : Hp} {E : XK} (hr : Room k (cxD P w K mg base ["store", "names", "consts", "uses", "kinds", "size", "deep", "free", "inner", "out", "todo", "turn", "scope", "depth", "room", "way", "word", "head", "k"] "_law_some_heads" f__law_some_heads cdv A outer s H E).A) (tk : Takes (cxD P w K mg base ["store", "names", "consts", "uses", "kinds", "size", "deep", "free", "inner", "out", "todo", "turn", "scope", "depth", "room", "way", "word", "head", "k"] "_law_some_heads" f__law_some_heads cdv A outer s H E) (wD E)) :
    PSst (cxD P w K mg base ["store", "names", "consts", "uses", "kinds", "size", "deep", "free", "inner", "out", "todo", "turn", "scope", "depth", "room", "way", "word", "head", "k"] "_law_some_heads" f__law_some_heads cdv A outer s H E) (wD E) (defBody f__law_some_heads) (x__law_some_heads g__law_take g__law_arity g__law_end_head g__law_pick g__law_ground) := by
  have hu : (cxD P w K mg base ["store", "names", "consts", "uses", "kinds", "size", "deep", "free", "inner", "out", "todo", "turn", "scope", "depth", "room", "way", "word", "head", "k"] "_law_some_heads" f__law_some_heads cdv A outer s H E).A.units + 65 < cLine := by have := hr.un; omega
  have hu4 : (cxD P w K mg base ["store", "names", "consts", "uses", "kinds", "size", "deep", "free", "inner", "out", "todo", "turn", "scope", "depth", "room", "way", "word", "head", "k"] "_law_some_heads" f__law_some_heads cdv A outer s H E).A.units + 64 < cLine := by have := hr.un; omega
  exact pss_cons (ps_set 8 sc__law_some_heads.nd (pe_lst (pa_cons (pe_str) (pa_cons (pe_str) (pa_cons (pe_str) (pa_cons (pe_str) (pa_cons (pe_str) (pa_cons (pe_str) (pa_cons (pe_str) (pa_cons (pe_str) (pa_cons (pe_str) (pa_cons (pe_str) (pa_cons (pe_str) (pa_nil)))))))))))))) (pss_cons (ps_set 9 sc__law_some_heads.nd (pe_lst (pa_nil))) (pss_cons (ps_set 10 sc__law_some_heads.nd (pe_lst (pa_cons (pe_tup (pa_cons (pe_tup (pa_nil)) (pa_cons (pe_int) (pa_nil)))) (pa_nil)))) (pss_cons (ps_for (passes_of rfl) rfl (pi_range1 rfl M.range (pa_cons (pe_name 5) (pa_nil))) (pg_name 11 sc__law_some_heads.nd) (pss_cons (ps_if (pt_bor (pt_cmp (op_eqD hu4) eqT_ok (pe_callB call_lenT lenT_ok rfl M.len bt_len (pa_cons (pe_name 10) (pa_nil))) (pe_int) (by rfl))) (pss_one (ps_break)) (pss_nil)) (pss_cons (ps_asg (pe_pop 10) (pg_tup rfl (pgs_cons (pg_name 12 sc__law_some_heads.nd) (pgs_cons (pg_name 13 sc__law_some_heads.nd) (pgs_nil))))) (pss_cons (ps_set 14 sc__law_some_heads.nd (pe_bin op_sub1 subT_ok (pe_bin op_sub1 subT_ok (pe_bin op_sub1 subT_ok (pe_name 5) (pe_name 11)) (pe_int)) (pe_bor (pe_callB call_lenT lenT_ok rfl M.len bt_len (pa_cons (pe_name 10) (pa_nil)))))) (pss_cons (ps_set 15 sc__law_some_heads.nd (pe_callI 0 F__law_take (hr.mono hk__law_take) tk rfl (pa_cons (pe_int) (pa_nil)))) (pss_cons (ps_if (PWt.pt (pw_and (pt_cmp op_lt intT_ok (pe_name 15) (pe_int) (by rfl)) (pw_and (pt_bor (pt_cmp (op_eqD hu4) eqT_ok (pe_callB call_lenT lenT_ok rfl M.len bt_len (pa_cons (pe_name 10) (pa_nil))) (pe_int) (by rfl))) (pw_and1 (pt_cmp op_gt intT_ok (pe_callI 0 F__law_take (hr.mono hk__law_take) tk rfl (pa_cons (pe_int) (pa_nil))) (pe_int) (by rfl)))))) (pss_one (ps_set 15 sc__law_some_heads.nd (pe_bin op_addT addT_ok (pe_int) (pe_callI 0 F__law_take (hr.mono hk__law_take) tk rfl (pa_cons (pe_int) (pa_nil)))))) (pss_nil)) (pss_cons (ps_set 16 sc__law_some_heads.nd (pe_ix ix_seq ixT_ok (pe_name 8) (pe_callB (call_max2 rfl) maxT_ok rfl M.max bt_max (pa_cons (pe_int) (pa_cons (pe_bin op_sub1 subT_ok (pe_name 15) (pe_int)) (pa_nil)))) (fun _ _ => rfl))) (pss_cons (ps_if (PWt.pt (pw_or (pt_cmp op_lt intT_ok (pe_name 15) (pe_int) (by rfl)) (pw_or (pt_cmp op_ge intT_ok (pe_name 13) (pe_name 6) (by rfl)) (pw_or (pt_cmp op_gt intT_ok (pe_call F__law_arity (hr.mono hk__law_arity) tk rfl (pa_cons (pe_name 16) (pa_nil))) (pe_name 14) (by rfl)) (pw_or1 (PWt.pt (pw_and (pt_cmp (op_inT hu) inT_ok (pe_name 16) (pe_lst (pa_cons (pe_str) (pa_cons (pe_str) (pa_nil)))) (by rfl)) (pw_and1 (pt_cmp (op_eqD hu4) eqT_ok (pe_callB call_lenT lenT_ok rfl M.len bt_len (pa_cons (pe_name 4) (pa_nil))) (pe_int) (by rfl)))))))))) (pss_cons (ps_expr (pe_app 9 (pa_cons (pe_callI 0 F__law_end_head (hr.mono hk__law_end_head) tk rfl (pa_cons (pe_name 1) (pa_cons (pe_name 2) (pa_cons (pe_name 3) (pa_cons (pe_name 12) (pa_cons (pe_name 7) (pa_cons (pe_bin op_mod modT_ok (pe_callTy call_int1 toIntT_ok rfl M.int bt_int (pa_cons (pe_name 15) (pa_nil))) (pe_int)) (pa_nil)))))))) (pa_nil)))) (pss_one (ps_continue))) (pss_nil)) (pss_cons (ps_set 17 sc__law_some_heads.nd (pe_tup (pa_cons (pe_name 16) (pa_nil)))) (pss_cons (ps_if (pt_cmp (op_eqD hu4) eqT_ok (pe_name 16) (pe_str) (by rfl)) (pss_cons (ps_set 17 sc__law_some_heads.nd (pe_tup (pa_cons (pe_str) (pa_cons (pe_callI 0 F__law_pick (hr.mono hk__law_pick) tk rfl (pa_cons (pe_name 1) (pa_nil))) (pa_nil))))) (pss_one (ps_set 12 sc__law_some_heads.nd (pe_bin op_addT addT_ok (pe_name 12) (pe_tup (pa_cons (pe_ix ix_seq ixT_ok (pe_name 17) (pe_int) (fun _ _ => rfl)) (pa_nil))))))) (pss_nil)) (pss_cons (ps_if (pt_cmp (op_eqD hu4) eqT_ok (pe_name 16) (pe_str) (by rfl)) (pss_one (ps_set 17 sc__law_some_heads.nd (pe_tup (pa_cons (pe_str) (pa_cons (pe_callI 0 F__law_ground (hr.mono hk__law_ground) tk rfl (pa_cons (pe_name 4) (pa_nil))) (pa_nil)))))) (pss_nil)) (pss_cons (ps_if (pt_cmp (op_eqD hu4) eqT_ok (pe_name 16) (pe_str) (by rfl)) (pss_one (ps_set 17 sc__law_some_heads.nd (pe_tup (pa_cons (pe_str) (pa_cons (pe_callI 0 F__law_pick (hr.mono hk__law_pick) tk rfl (pa_cons (pe_name 4) (pa_nil))) (pa_nil)))))) (pss_nil)) (pss_cons (ps_expr (pe_app 9 (pa_cons (pe_name 17) (pa_nil)))) (pss_one (ps_for (passes_of rfl) rfl (pi_range1 rfl M.range (pa_cons (pe_call F__law_arity (hr.mono hk__law_arity) tk rfl (pa_cons (pe_name 16) (pa_nil))) (pa_nil))) (pg_name 18 sc__law_some_heads.nd) (pss_one (ps_expr (pe_app 10 (pa_cons (pe_tup (pa_cons (pe_name 12) (pa_cons (pe_bin op_addT addT_ok (pe_name 13) (pe_int)) (pa_nil)))) (pa_nil)))))))))))))))))))) (pss_one (ps_ret (pe_mov 9))))))
theorem sc__law_tree : FnScope ["heads", "parents", "levels", "kids", "ends", "waiting", "n", "row", "turn", "at"] ["heads"] (defScope f__law_tree) := ⟨rfl, rfl, rfl, by decide +kernel, rfl, by decide +kernel, by decide +kernel⟩
theorem t__law_tree {k : Nat} (M : Md P w K mg base) {k__law_arity : Nat} {g__law_arity : PF} (F__law_arity : Fn1 P w K mg base k__law_arity "_law_arity" ["word"] (spP K g__law_arity)) (hk__law_arity : k__law_arity ≤ k) {cdv : Value} {A : Around} {outer : List Env} {s : Shared} {H : Hp} {E : XK} (hr : Room k (cxD P w K mg base ["heads", "parents", "levels", "kids", "ends", "waiting", "n", "row", "turn", "at"] "_law_tree" f__law_tree cdv A outer s H E).A) (tk : Takes (cxD P w K mg base ["heads", "parents", "levels", "kids", "ends", "waiting", "n", "row", "turn", "at"] "_law_tree" f__law_tree cdv A outer s H E) (wD E)) :
    PSst (cxD P w K mg base ["heads", "parents", "levels", "kids", "ends", "waiting", "n", "row", "turn", "at"] "_law_tree" f__law_tree cdv A outer s H E) (wD E) (defBody f__law_tree) (x__law_tree g__law_arity) := by
  have hu : (cxD P w K mg base ["heads", "parents", "levels", "kids", "ends", "waiting", "n", "row", "turn", "at"] "_law_tree" f__law_tree cdv A outer s H E).A.units + 65 < cLine := by have := hr.un; omega
  have hu4 : (cxD P w K mg base ["heads", "parents", "levels", "kids", "ends", "waiting", "n", "row", "turn", "at"] "_law_tree" f__law_tree cdv A outer s H E).A.units + 64 < cLine := by have := hr.un; omega
  exact pss_cons (ps_set 1 sc__law_tree.nd (pe_lst (pa_nil))) (pss_cons (ps_set 2 sc__law_tree.nd (pe_lst (pa_nil))) (pss_cons (ps_set 3 sc__law_tree.nd (pe_lst (pa_nil))) (pss_cons (ps_set 4 sc__law_tree.nd (pe_lst (pa_nil))) (pss_cons (ps_set 5 sc__law_tree.nd (pe_lst (pa_nil))) (pss_cons (ps_for (passes_of rfl) rfl (pi_range1 rfl M.range (pa_cons (pe_callB call_lenT lenT_ok rfl M.len bt_len (pa_cons (pe_name 0) (pa_nil))) (pa_nil))) (pg_name 6 sc__law_tree.nd) (pss_cons (ps_expr (pe_app 1 (pa_cons (pe_non) (pa_nil)))) (pss_cons (ps_expr (pe_app 2 (pa_cons (pe_int) (pa_nil)))) (pss_cons (ps_if (pt_bor (pt_cmp op_gt intT_ok (pe_callB call_lenT lenT_ok rfl M.len bt_len (pa_cons (pe_name 5) (pa_nil))) (pe_int) (by rfl))) (pss_cons (ps_asg (pe_ixN 5 (pe_neg (pe_int)) (fun _ _ => rfl)) (pg_ixN 1 (pe_name 6))) (pss_cons (ps_asg (pe_bin op_addT addT_ok (pe_ixN 2 (pe_ixN 5 (pe_neg (pe_int)) (fun _ _ => rfl)) (fun _ _ => rfl)) (pe_int)) (pg_ixN 2 (pe_name 6))) (pss_rowApp 3 7 6 sc__law_tree.nd (pe_ixN 5 (pe_neg (pe_int)) (fun _ _ => rfl)) (fun _ _ => rfl) (pss_nil)))) (pss_nil)) (pss_cons (ps_expr (pe_app 3 (pa_cons (pe_lst (pa_nil)) (pa_nil)))) (pss_cons (ps_expr (pe_app 4 (pa_cons (pe_bin op_addT addT_ok (pe_name 6) (pe_int)) (pa_nil)))) (pss_cons (ps_expr (pe_app 5 (pa_cons (pe_name 6) (pa_nil)))) (pss_one (ps_for (passes_of rfl) rfl (pi_range1 rfl M.range (pa_cons (pe_bor (pe_callB call_lenT lenT_ok rfl M.len bt_len (pa_cons (pe_name 5) (pa_nil)))) (pa_nil))) (pg_name 8 sc__law_tree.nd) (pss_cons (ps_set 9 sc__law_tree.nd (pe_ixN 5 (pe_neg (pe_int)) (fun _ _ => rfl))) (pss_cons (ps_if (pt_bor (pt_cmp op_lt intT_ok (pe_callB call_lenT lenT_ok rfl M.len bt_len (pa_cons (pe_ix ix_seq ixT_ok (pe_name 3) (pe_name 9) (fun _ _ => rfl)) (pa_nil))) (pe_call F__law_arity (hr.mono hk__law_arity) tk rfl (pa_cons (pe_ix ix_seq ixT_ok (pe_ix ix_seq ixT_ok (pe_name 0) (pe_name 9) (fun _ _ => rfl)) (pe_int) (fun _ _ => rfl)) (pa_nil))) (by rfl))) (pss_one (ps_break)) (pss_nil)) (pss_cons (ps_asg (pe_bin op_addT addT_ok (pe_name 6) (pe_int)) (pg_ixN 4 (pe_name 9))) (pss_one (ps_expr (pe_pop 5))))))))))))))) (pss_one (ps_ret (pe_tup (pa_cons (pe_name 1) (pa_cons (pe_name 2) (pa_cons (pe_name 3) (pa_cons (pe_name 4) (pa_nil)))))))))))))
theorem sc__law_binder : FnScope ["heads", "parents", "n", "at", "turn"] ["heads", "parents", "n"] (defScope f__law_binder) := ⟨rfl, rfl, rfl, by decide +kernel, rfl, by decide +kernel, by decide +kernel⟩
theorem t__law_binder {k : Nat} (M : Md P w K mg base) {cdv : Value} {A : Around} {outer : List Env} {s : Shared} {H : Hp} {E : XK} (hr : Room k (cxD P w K mg base ["heads", "parents", "n", "at", "turn"] "_law_binder" f__law_binder cdv A outer s H E).A) (tk : Takes (cxD P w K mg base ["heads", "parents", "n", "at", "turn"] "_law_binder" f__law_binder cdv A outer s H E) (wD E)) :
    PSst (cxD P w K mg base ["heads", "parents", "n", "at", "turn"] "_law_binder" f__law_binder cdv A outer s H E) (wD E) (defBody f__law_binder) (x__law_binder) := by
  have hu : (cxD P w K mg base ["heads", "parents", "n", "at", "turn"] "_law_binder" f__law_binder cdv A outer s H E).A.units + 65 < cLine := by have := hr.un; omega
  have hu4 : (cxD P w K mg base ["heads", "parents", "n", "at", "turn"] "_law_binder" f__law_binder cdv A outer s H E).A.units + 64 < cLine := by have := hr.un; omega
  exact pss_cons (ps_set 3 sc__law_binder.nd (pe_ix ix_seq ixT_ok (pe_name 1) (pe_name 2) (fun _ _ => rfl))) (pss_cons (ps_for (passes_of rfl) rfl (pi_range1 rfl M.range (pa_cons (pe_callB call_lenT lenT_ok rfl M.len bt_len (pa_cons (pe_name 0) (pa_nil))) (pa_nil))) (pg_name 4 sc__law_binder.nd) (pss_cons (ps_if (PWt.pt (pw_or (pt_cmp op_isN isNT_ok (pe_name 3) (pe_non) (by rfl)) (pw_or1 (pt_cmp (op_eqD hu4) eqT_ok (pe_ix ix_seq ixT_ok (pe_name 0) (pe_name 3) (fun _ _ => rfl)) (pe_tup (pa_cons (pe_str) (pa_cons (pe_ix ix_seq ixT_ok (pe_ix ix_seq ixT_ok (pe_name 0) (pe_name 2) (fun _ _ => rfl)) (pe_int) (fun _ _ => rfl)) (pa_nil)))) (by rfl))))) (pss_one (ps_break)) (pss_nil)) (pss_one (ps_set 3 sc__law_binder.nd (pe_ix ix_seq ixT_ok (pe_name 1) (pe_name 3) (fun _ _ => rfl)))))) (pss_one (ps_ret (pe_name 3))))
theorem sc__law_chain : FnScope ["store", "x", "levels", "nodes", "out", "turn", "ones"] ["store", "x", "levels", "nodes"] (defScope f__law_chain) := ⟨rfl, rfl, rfl, by decide +kernel, rfl, by decide +kernel, by decide +kernel⟩
theorem t__law_chain {k : Nat} (M : Md P w K mg base) {k__law_pick : Nat} {g__law_pick : IF} (F__law_pick : Fn1 P w K mg base k__law_pick "_law_pick" ["store", "things"] (spI K g__law_pick)) (hk__law_pick : k__law_pick ≤ k) {cdv : Value} {A : Around} {outer : List Env} {s : Shared} {H : Hp} {E : XK} (hr : Room k (cxD P w K mg base ["store", "x", "levels", "nodes", "out", "turn", "ones"] "_law_chain" f__law_chain cdv A outer s H E).A) (tk : Takes (cxD P w K mg base ["store", "x", "levels", "nodes", "out", "turn", "ones"] "_law_chain" f__law_chain cdv A outer s H E) (wD E)) :
    PSst (cxD P w K mg base ["store", "x", "levels", "nodes", "out", "turn", "ones"] "_law_chain" f__law_chain cdv A outer s H E) (wD E) (defBody f__law_chain) (x__law_chain g__law_pick) := by
  have hu : (cxD P w K mg base ["store", "x", "levels", "nodes", "out", "turn", "ones"] "_law_chain" f__law_chain cdv A outer s H E).A.units + 65 < cLine := by have := hr.un; omega
  have hu4 : (cxD P w K mg base ["store", "x", "levels", "nodes", "out", "turn", "ones"] "_law_chain" f__law_chain cdv A outer s H E).A.units + 64 < cLine := by have := hr.un; omega
  exact pss_cons (ps_set 4 sc__law_chain.nd (pe_lst (pa_nil))) (pss_cons (ps_for (passes_of rfl) rfl (pi_range1 rfl M.range (pa_cons (pe_bin op_sub1 subT_ok (pe_name 3) (pe_name 2)) (pa_nil))) (pg_name 5 sc__law_chain.nd) (pss_one (ps_set 4 sc__law_chain.nd (pe_bin op_addT addT_ok (pe_name 4) (pe_lst (pa_cons (pe_callI 0 F__law_pick (hr.mono hk__law_pick) tk rfl (pa_cons (pe_lst (pa_cons (pe_tup (pa_cons (pe_str) (pa_nil))) (pa_cons (pe_tup (pa_cons (pe_str) (pa_nil))) (pa_nil)))) (pa_nil))) (pa_cons (pe_tup (pa_cons (pe_str) (pa_nil))) (pa_nil)))))))) (pss_cons (ps_set 6 sc__law_chain.nd (pe_lst (pa_cons (pe_tup (pa_cons (pe_str) (pa_cons (pe_name 1) (pa_nil)))) (pa_cons (pe_tup (pa_cons (pe_str) (pa_nil))) (pa_cons (pe_tup (pa_cons (pe_str) (pa_nil))) (pa_cons (pe_tup (pa_cons (pe_str) (pa_nil))) (pa_nil))))))) (pss_one (ps_ret (pe_bin op_addT addT_ok (pe_bin op_addT addT_ok (pe_name 4) (pe_lc (own := [("turn", 5)]) rfl sc__law_chain.nd (pi_range1 rfl M.range (pa_cons (pe_bin op_sub1 subT_ok (pe_bin op_sub1 subT_ok (pe_bin op_mulT mulT_ok (pe_int) (pe_name 2)) (pe_int)) (pe_name 3)) (pa_nil))) (show BlkOk ["store", "x", "levels", "nodes", "out", "turn", "ones"] (defScope f__law_chain) _ _ from ⟨rfl, by decide +kernel, by decide +kernel, by decide +kernel, by decide +kernel⟩) (by decide) (fun _ _ _ _ _ => pg_name 5 sc__law_chain.nd) (fun _ _ _ _ _ => pts_nil) (fun _ _ _ _ _ => pe_callI 0 F__law_pick (hr.mono hk__law_pick) takes0 rfl (pa_cons (pe_name 6) (pa_nil))))) (pe_lst (pa_cons (pe_tup (pa_cons (pe_str) (pa_nil))) (pa_nil))))))))
theorem sc__law_closed : FnScope ["heads", "parents", "names", "n"] ["heads"] (defScope f__law_closed) := ⟨rfl, rfl, rfl, by decide +kernel, rfl, by decide +kernel, by decide +kernel⟩
theorem t__law_closed {k : Nat} (M : Md P w K mg base) {k__law_tree : Nat} {g__law_tree : PF} (F__law_tree : Fn1 P w K mg base k__law_tree "_law_tree" ["heads"] (spP K g__law_tree)) (hk__law_tree : k__law_tree ≤ k) {k__law_binder : Nat} {g__law_binder : PF} (F__law_binder : Fn1 P w K mg base k__law_binder "_law_binder" ["heads", "parents", "n"] (spP K g__law_binder)) (hk__law_binder : k__law_binder ≤ k) {cdv : Value} {A : Around} {outer : List Env} {s : Shared} {H : Hp} {E : XK} (hr : Room k (cxD P w K mg base ["heads", "parents", "names", "n"] "_law_closed" f__law_closed cdv A outer s H E).A) (tk : Takes (cxD P w K mg base ["heads", "parents", "names", "n"] "_law_closed" f__law_closed cdv A outer s H E) (wD E)) :
    PSst (cxD P w K mg base ["heads", "parents", "names", "n"] "_law_closed" f__law_closed cdv A outer s H E) (wD E) (defBody f__law_closed) (x__law_closed g__law_tree g__law_binder) := by
  have hu : (cxD P w K mg base ["heads", "parents", "names", "n"] "_law_closed" f__law_closed cdv A outer s H E).A.units + 65 < cLine := by have := hr.un; omega
  have hu4 : (cxD P w K mg base ["heads", "parents", "names", "n"] "_law_closed" f__law_closed cdv A outer s H E).A.units + 64 < cLine := by have := hr.un; omega
  exact pss_cons (ps_set 1 sc__law_closed.nd (pe_ix ix_seq ixT_ok (pe_call F__law_tree (hr.mono hk__law_tree) tk rfl (pa_cons (pe_name 0) (pa_nil))) (pe_int) (fun _ _ => rfl))) (pss_cons (ps_setLc 2 (own := [("n", 3)]) rfl sc__law_closed.nd (pi_range1 rfl M.range (pa_cons (pe_callB call_lenT lenT_ok rfl M.len bt_len (pa_cons (pe_name 0) (pa_nil))) (pa_nil))) (show BlkOk ["heads", "parents", "names", "n"] (defScope f__law_closed) _ _ from ⟨rfl, by decide +kernel, by decide +kernel, by decide +kernel, by decide +kernel⟩) (by decide) (fun _ _ _ _ _ => pg_name 3 sc__law_closed.nd) (fun _ _ _ _ _ => pts_one (pt_cmp (op_eqD hu4) eqT_ok (pe_ix ix_seq ixT_ok (pe_ix ix_seq ixT_ok (pe_name 0) (pe_name 3) (fun _ _ => rfl)) (pe_int) (fun _ _ => rfl)) (pe_str) (by rfl))) (fun _ _ _ _ _ => pe_name 3)) (pss_one (ps_ret (pe_notV (pe_callB (cr_any rfl) anyT_ok rfl M.any bt_any (pa_cons (pe_lc (own := [("n", 3)]) rfl sc__law_closed.nd (pi_seq (pe_name 2)) (show BlkOk ["heads", "parents", "names", "n"] (defScope f__law_closed) _ _ from ⟨rfl, by decide +kernel, by decide +kernel, by decide +kernel, by decide +kernel⟩) (by decide) (fun _ _ _ _ _ => pg_name 3 sc__law_closed.nd) (fun _ _ _ _ _ => pts_nil) (fun _ _ _ _ _ => pe_cmp op_isN isNT_ok (pe_call F__law_binder (hr.mono hk__law_binder) takes0 rfl (pa_cons (pe_name 0) (pa_cons (pe_name 1) (pa_cons (pe_name 3) (pa_nil))))) (pe_non) (by rfl))) (pa_nil)))))))
theorem sc__law_reduct : FnScope ["heads", "tree", "n", "word", "parents", "levels", "kids", "ends", "inner", "half", "argument", "out", "k"] ["heads", "tree", "n"] (defScope f__law_reduct) := ⟨rfl, rfl, rfl, by decide +kernel, rfl, by decide +kernel, by decide +kernel⟩
theorem t__law_reduct {k : Nat} (M : Md P w K mg base) {k__law_closed : Nat} {g__law_closed : PF} (F__law_closed : Fn1 P w K mg base k__law_closed "_law_closed" ["heads"] (spP K g__law_closed)) (hk__law_closed : k__law_closed ≤ k) {k__law_binder : Nat} {g__law_binder : PF} (F__law_binder : Fn1 P w K mg base k__law_binder "_law_binder" ["heads", "parents", "n"] (spP K g__law_binder)) (hk__law_binder : k__law_binder ≤ k) {cdv : Value} {A : Around} {outer : List Env} {s : Shared} {H : Hp} {E : XK} (hr : Room k (cxD P w K mg base ["heads", "tree", "n", "word", "parents", "levels", "kids", "ends", "inner", "half", "argument", "out", "k"] "_law_reduct" f__law_reduct cdv A outer s H E).A) (tk : Takes (cxD P w K mg base ["heads", "tree", "n", "word", "parents", "levels", "kids", "ends", "inner", "half", "argument", "out", "k"] "_law_reduct" f__law_reduct cdv A outer s H E) (wD E)) :
    PSst (cxD P w K mg base ["heads", "tree", "n", "word", "parents", "levels", "kids", "ends", "inner", "half", "argument", "out", "k"] "_law_reduct" f__law_reduct cdv A outer s H E) (wD E) (defBody f__law_reduct) (x__law_reduct g__law_closed g__law_binder) := by
  have hu : (cxD P w K mg base ["heads", "tree", "n", "word", "parents", "levels", "kids", "ends", "inner", "half", "argument", "out", "k"] "_law_reduct" f__law_reduct cdv A outer s H E).A.units + 65 < cLine := by have := hr.un; omega
  have hu4 : (cxD P w K mg base ["heads", "tree", "n", "word", "parents", "levels", "kids", "ends", "inner", "half", "argument", "out", "k"] "_law_reduct" f__law_reduct cdv A outer s H E).A.units + 64 < cLine := by have := hr.un; omega
  exact pss_cons (ps_set 3 sc__law_reduct.nd (pe_ix ix_seq ixT_ok (pe_ix ix_seq ixT_ok (pe_name 0) (pe_name 2) (fun _ _ => rfl)) (pe_int) (fun _ _ => rfl))) (pss_cons (ps_asg (pe_name 1) (pg_tup rfl (pgs_cons (pg_name 4 sc__law_reduct.nd) (pgs_cons (pg_name 5 sc__law_reduct.nd) (pgs_cons (pg_name 6 sc__law_reduct.nd) (pgs_cons (pg_name 7 sc__law_reduct.nd) (pgs_nil))))))) (pss_cons (ps_if (pt_cmp (op_notInT hu) notInT_ok (pe_name 3) (pe_lst (pa_cons (pe_str) (pa_cons (pe_str) (pa_cons (pe_str) (pa_cons (pe_str) (pa_cons (pe_str) (pa_nil))))))) (by rfl)) (pss_one (ps_ret (pe_lst (pa_nil)))) (pss_nil)) (pss_cons (ps_set 8 sc__law_reduct.nd (pe_ix ix_seq ixT_ok (pe_ix ix_seq ixT_ok (pe_name 6) (pe_name 2) (fun _ _ => rfl)) (pe_int) (fun _ _ => rfl))) (pss_cons (ps_if (pt_cmp (op_eqD hu4) eqT_ok (pe_name 3) (pe_str) (by rfl)) (pss_one (ps_ret (pe_slice (pe_name 0) (po_some (pe_name 8)) (po_some (pe_ix ix_seq ixT_ok (pe_name 7) (pe_name 8) (fun _ _ => rfl)))))) (pss_nil)) (pss_cons (ps_if (pt_cmp (op_eqD hu4) eqT_ok (pe_name 3) (pe_str) (by rfl)) (pss_one (ps_ret (pe_bin op_mulT mulT_ok (pe_slice (pe_name 0) (po_some (pe_bin op_addT addT_ok (pe_name 8) (pe_int))) (po_some (pe_ix ix_seq ixT_ok (pe_name 7) (pe_name 8) (fun _ _ => rfl)))) (pe_callTy call_int1 toIntT_ok rfl M.int bt_int (pa_cons (pe_cmp (op_eqD hu4) eqT_ok (pe_ix ix_seq ixT_ok (pe_ix ix_seq ixT_ok (pe_name 0) (pe_name 8) (fun _ _ => rfl)) (pe_int) (fun _ _ => rfl)) (pe_str) (by rfl)) (pa_nil)))))) (pss_nil)) (pss_cons (ps_if (pt_cmp (op_inT hu) inT_ok (pe_name 3) (pe_lst (pa_cons (pe_str) (pa_cons (pe_str) (pa_nil)))) (by rfl)) (pss_cons (ps_if (pt_cmp (op_neD hu4) neT_ok (pe_ix ix_seq ixT_ok (pe_ix ix_seq ixT_ok (pe_name 0) (pe_name 8) (fun _ _ => rfl)) (pe_int) (fun _ _ => rfl)) (pe_str) (by rfl)) (pss_one (ps_ret (pe_lst (pa_nil)))) (pss_nil)) (pss_cons (ps_set 9 sc__law_reduct.nd (pe_ix ix_seq ixT_ok (pe_ix ix_seq ixT_ok (pe_name 6) (pe_name 8) (fun _ _ => rfl)) (pe_callTy call_int1 toIntT_ok rfl M.int bt_int (pa_cons (pe_cmp (op_eqD hu4) eqT_ok (pe_name 3) (pe_str) (by rfl)) (pa_nil))) (fun _ _ => rfl))) (pss_one (ps_ret (pe_slice (pe_name 0) (po_some (pe_name 9)) (po_some (pe_ix ix_seq ixT_ok (pe_name 7) (pe_name 9) (fun _ _ => rfl)))))))) (pss_nil)) (pss_cons (ps_set 10 sc__law_reduct.nd (pe_slice (pe_name 0) (po_some (pe_ix ix_seq ixT_ok (pe_ix ix_seq ixT_ok (pe_name 6) (pe_name 2) (fun _ _ => rfl)) (pe_int) (fun _ _ => rfl))) (po_some (pe_ix ix_seq ixT_ok (pe_name 7) (pe_name 2) (fun _ _ => rfl))))) (pss_cons (ps_if (PWt.pt (pw_or (pt_cmp (op_neD hu4) neT_ok (pe_ix ix_seq ixT_ok (pe_ix ix_seq ixT_ok (pe_name 0) (pe_name 8) (fun _ _ => rfl)) (pe_int) (fun _ _ => rfl)) (pe_str) (by rfl)) (pw_or1 (pt_not (pt_tru (pe_call F__law_closed (hr.mono hk__law_closed) tk rfl (pa_cons (pe_name 10) (pa_nil)))))))) (pss_one (ps_ret (pe_lst (pa_nil)))) (pss_nil)) (pss_cons (ps_set 11 sc__law_reduct.nd (pe_lst (pa_nil))) (pss_cons (ps_for (passes_of rfl) rfl (pi_range2 rfl M.range (pa_cons (pe_bin op_addT addT_ok (pe_name 8) (pe_int)) (pa_cons (pe_ix ix_seq ixT_ok (pe_name 7) (pe_name 8) (fun _ _ => rfl)) (pa_nil)))) (pg_name 12 sc__law_reduct.nd) (pss_one (ps_if (PWt.pt (pw_and (pt_cmp (op_eqD hu4) eqT_ok (pe_ix ix_seq ixT_ok (pe_ix ix_seq ixT_ok (pe_name 0) (pe_name 12) (fun _ _ => rfl)) (pe_int) (fun _ _ => rfl)) (pe_str) (by rfl)) (pw_and1 (pt_cmp (op_eqD hu4) eqT_ok (pe_call F__law_binder (hr.mono hk__law_binder) tk rfl (pa_cons (pe_name 0) (pa_cons (pe_name 4) (pa_cons (pe_name 12) (pa_nil))))) (pe_name 8) (by rfl))))) (pss_one (ps_set 11 sc__law_reduct.nd (pe_bin op_addT addT_ok (pe_name 11) (pe_name 10)))) (pss_one (ps_expr (pe_app 11 (pa_cons (pe_ix ix_seq ixT_ok (pe_name 0) (pe_name 12) (fun _ _ => rfl)) (pa_nil)))))))) (pss_one (ps_ret (pe_mov 11)))))))))))))
theorem sc__law_wrapped : FnScope ["store", "heads", "names", "words", "n", "end", "mine", "free", "other", "way"] ["store", "heads", "names", "words"] (defScope f__law_wrapped) := ⟨rfl, rfl, rfl, by decide +kernel, rfl, by decide +kernel, by decide +kernel⟩
theorem t__law_wrapped {k : Nat} (M : Md P w K mg base) {k__law_take : Nat} {g__law_take : IF} (F__law_take : Fn1 P w K mg base k__law_take "_law_take" ["store", "many"] (spI K g__law_take)) (hk__law_take : k__law_take ≤ k) {k__law_tree : Nat} {g__law_tree : PF} (F__law_tree : Fn1 P w K mg base k__law_tree "_law_tree" ["heads"] (spP K g__law_tree)) (hk__law_tree : k__law_tree ≤ k) {k__law_some_heads : Nat} {g__law_some_heads : IF} (F__law_some_heads : Fn1 P w K mg base k__law_some_heads "_law_some_heads" ["store", "names", "consts", "uses", "kinds", "size", "deep", "free"] (spI K g__law_some_heads)) (hk__law_some_heads : k__law_some_heads ≤ k) {k__law_pick : Nat} {g__law_pick : IF} (F__law_pick : Fn1 P w K mg base k__law_pick "_law_pick" ["store", "things"] (spI K g__law_pick)) (hk__law_pick : k__law_pick ≤ k) {cdv : Value} {A : Around} {outer : List Env} {s : Shared} {H : Hp} {E : XK} (hr : Room k (cxD P w K mg base ["store", "heads", "names", "words", "n", "end", "mine", "free", "other", "way"] "_law_wrapped" f__law_wrapped cdv A outer s H E).A) (tk : Takes (cxD P w K mg base ["store", "heads", "names", "words", "n", "end", "mine", "free", "other", "way"] "_law_wrapped" f__law_wrapped cdv A outer s H E) (wD E)) :
    PSst (cxD P w K mg base ["store", "heads", "names", "words", "n", "end", "mine", "free", "other", "way"] "_law_wrapped" f__law_wrapped cdv A outer s H E) (wD E) (defBody f__law_wrapped) (x__law_wrapped g__law_take g__law_tree g__law_some_heads g__law_pick) := by
  have hu : (cxD P w K mg base ["store", "heads", "names", "words", "n", "end", "mine", "free", "other", "way"] "_law_wrapped" f__law_wrapped cdv A outer s H E).A.units + 65 < cLine := by have := hr.un; omega
  have hu4 : (cxD P w K mg base ["store", "heads", "names", "words", "n", "end", "mine", "free", "other", "way"] "_law_wrapped" f__law_wrapped cdv A outer s H E).A.units + 64 < cLine := by have := hr.un; omega
  exact pss_cons (ps_set 4 sc__law_wrapped.nd (pe_callI 0 F__law_take (hr.mono hk__law_take) tk rfl (pa_cons (pe_callB call_lenT lenT_ok rfl M.len bt_len (pa_cons (pe_name 1) (pa_nil))) (pa_nil)))) (pss_cons (ps_set 5 sc__law_wrapped.nd (pe_ix ix_seq ixT_ok (pe_ix ix_seq ixT_ok (pe_call F__law_tree (hr.mono hk__law_tree) tk rfl (pa_cons (pe_name 1) (pa_nil))) (pe_int) (fun _ _ => rfl)) (pe_name 4) (fun _ _ => rfl))) (pss_cons (ps_set 6 sc__law_wrapped.nd (pe_slice (pe_name 1) (po_some (pe_name 4)) (po_some (pe_name 5)))) (pss_cons (ps_set 7 sc__law_wrapped.nd (pe_cmp (op_eqD hu4) eqT_ok (pe_callI 0 F__law_take (hr.mono hk__law_take) tk rfl (pa_cons (pe_int) (pa_nil))) (pe_int) (by rfl))) (pss_cons (ps_set 8 sc__law_wrapped.nd (pe_callI 0 F__law_some_heads (hr.mono hk__law_some_heads) tk rfl (pa_cons (pe_name 2) (pa_cons (pe_name 3) (pa_cons (pe_name 3) (pa_cons (pe_lst (pa_cons (pe_str) (pa_cons (pe_str) (pa_nil)))) (pa_cons (pe_bin op_addT addT_ok (pe_int) (pe_callI 0 F__law_take (hr.mono hk__law_take) tk rfl (pa_cons (pe_int) (pa_nil)))) (pa_cons (pe_int) (pa_cons (pe_name 7) (pa_nil)))))))))) (pss_cons (ps_set 9 sc__law_wrapped.nd (pe_callI 0 F__law_take (hr.mono hk__law_take) tk rfl (pa_cons (pe_int) (pa_nil)))) (pss_cons (ps_if (pt_cmp op_lt intT_ok (pe_name 9) (pe_int) (by rfl)) (pss_one (ps_set 6 sc__law_wrapped.nd (pe_bin op_addT addT_ok (pe_bin op_addT addT_ok (pe_lst (pa_cons (pe_tup (pa_cons (pe_str) (pa_nil))) (pa_cons (pe_tup (pa_cons (pe_str) (pa_cons (pe_callI 0 F__law_pick (hr.mono hk__law_pick) tk rfl (pa_cons (pe_name 2) (pa_nil))) (pa_nil)))) (pa_nil)))) (pe_name 6)) (pe_name 8)))) (pss_one (ps_if (pt_cmp (op_eqD hu4) eqT_ok (pe_name 9) (pe_int) (by rfl)) (pss_one (ps_set 6 sc__law_wrapped.nd (pe_bin op_addT addT_ok (pe_bin op_addT addT_ok (pe_lst (pa_cons (pe_tup (pa_cons (pe_str) (pa_nil))) (pa_nil))) (pe_name 8)) (pe_name 6)))) (pss_one (ps_if (pt_cmp (op_eqD hu4) eqT_ok (pe_name 9) (pe_int) (by rfl)) (pss_one (ps_set 6 sc__law_wrapped.nd (pe_bin op_addT addT_ok (pe_bin op_addT addT_ok (pe_lst (pa_cons (pe_tup (pa_cons (pe_str) (pa_nil))) (pa_cons (pe_tup (pa_cons (pe_str) (pa_nil))) (pa_nil)))) (pe_name 6)) (pe_name 8)))) (pss_one (ps_if (pt_cmp (op_eqD hu4) eqT_ok (pe_name 9) (pe_int) (by rfl)) (pss_one (ps_set 6 sc__law_wrapped.nd (pe_bin op_addT addT_ok (pe_bin op_addT addT_ok (pe_lst (pa_cons (pe_tup (pa_cons (pe_str) (pa_nil))) (pa_cons (pe_tup (pa_cons (pe_str) (pa_nil))) (pa_nil)))) (pe_name 8)) (pe_name 6)))) (pss_one (ps_if (pt_cmp (op_eqD hu4) eqT_ok (pe_name 9) (pe_int) (by rfl)) (pss_one (ps_set 6 sc__law_wrapped.nd (pe_bin op_addT addT_ok (pe_lst (pa_cons (pe_callI 0 F__law_pick (hr.mono hk__law_pick) tk rfl (pa_cons (pe_lst (pa_cons (pe_tup (pa_cons (pe_str) (pa_nil))) (pa_cons (pe_tup (pa_cons (pe_str) (pa_nil))) (pa_cons (pe_tup (pa_cons (pe_str) (pa_nil))) (pa_nil))))) (pa_nil))) (pa_cons (pe_tup (pa_cons (pe_str) (pa_nil))) (pa_nil)))) (pe_name 6)))) (pss_one (ps_set 6 sc__law_wrapped.nd (pe_bin op_addT addT_ok (pe_lst (pa_cons (pe_tup (pa_cons (pe_str) (pa_cons (pe_callI 0 F__law_pick (hr.mono hk__law_pick) tk rfl (pa_cons (pe_lst (pa_cons (pe_tup (pa_cons (pe_str) (pa_cons (pe_str) (pa_nil)))) (pa_cons (pe_tup (pa_cons (pe_str) (pa_cons (pe_tup (pa_cons (pe_str) (pa_cons (pe_str) (pa_nil)))) (pa_nil)))) (pa_nil)))) (pa_nil))) (pa_nil)))) (pa_nil))) (pe_name 6))))))))))))) (pss_one (ps_ret (pe_bin op_addT addT_ok (pe_bin op_addT addT_ok (pe_slice (pe_name 1) (po_none) (po_some (pe_name 4))) (pe_name 6)) (pe_slice (pe_name 1) (po_some (pe_name 5)) (po_none)))))))))))
theorem sc__law_bound_heads : FnScope ["store", "x", "levels", "seals", "outer", "side", "body", "turn", "call"] ["store", "x"] (defScope f__law_bound_heads) := ⟨rfl, rfl, rfl, by decide +kernel, rfl, by decide +kernel, by decide +kernel⟩
theorem t__law_bound_heads {k : Nat} (M : Md P w K mg base) {k__law_take : Nat} {g__law_take : IF} (F__law_take : Fn1 P w K mg base k__law_take "_law_take" ["store", "many"] (spI K g__law_take)) (hk__law_take : k__law_take ≤ k) {k__law_chain : Nat} {g__law_chain : IF} (F__law_chain : Fn1 P w K mg base k__law_chain "_law_chain" ["store", "x", "levels", "nodes"] (spI K g__law_chain)) (hk__law_chain : k__law_chain ≤ k) {cdv : Value} {A : Around} {outer : List Env} {s : Shared} {H : Hp} {E : XK} (hr : Room k (cxD P w K mg base ["store", "x", "levels", "seals", "outer", "side", "body", "turn", "call"] "_law_bound_heads" f__law_bound_heads cdv A outer s H E).A) (tk : Takes (cxD P w K mg base ["store", "x", "levels", "seals", "outer", "side", "body", "turn", "call"] "_law_bound_heads" f__law_bound_heads cdv A outer s H E) (wD E)) :
    PSst (cxD P w K mg base ["store", "x", "levels", "seals", "outer", "side", "body", "turn", "call"] "_law_bound_heads" f__law_bound_heads cdv A outer s H E) (wD E) (defBody f__law_bound_heads) (x__law_bound_heads g__law_take g__law_chain) := by
  have hu : (cxD P w K mg base ["store", "x", "levels", "seals", "outer", "side", "body", "turn", "call"] "_law_bound_heads" f__law_bound_heads cdv A outer s H E).A.units + 65 < cLine := by have := hr.un; omega
  have hu4 : (cxD P w K mg base ["store", "x", "levels", "seals", "outer", "side", "body", "turn", "call"] "_law_bound_heads" f__law_bound_heads cdv A outer s H E).A.units + 64 < cLine := by have := hr.un; omega
  exact pss_cons (ps_set 2 sc__law_bound_heads.nd (pe_bin op_addT addT_ok (pe_int) (pe_callI 0 F__law_take (hr.mono hk__law_take) tk rfl (pa_cons (pe_int) (pa_nil))))) (pss_cons (ps_set 3 sc__law_bound_heads.nd (pe_bin op_sub1 subT_ok (pe_bin op_addT addT_ok (pe_int) (pe_callI 0 F__law_take (hr.mono hk__law_take) tk rfl (pa_cons (pe_int) (pa_nil)))) (pe_name 2))) (pss_cons (ps_set 4 sc__law_bound_heads.nd (pe_callI 0 F__law_take (hr.mono hk__law_take) tk rfl (pa_cons (pe_int) (pa_nil)))) (pss_cons (ps_set 5 sc__law_bound_heads.nd (pe_bin op_sub1 subT_ok (pe_bin op_addT addT_ok (pe_int) (pe_callI 0 F__law_take (hr.mono hk__law_take) tk rfl (pa_cons (pe_int) (pa_nil)))) (pe_name 3))) (pss_cons (ps_set 6 sc__law_bound_heads.nd (pe_lst (pa_cons (pe_tup (pa_cons (pe_str) (pa_cons (pe_name 1) (pa_nil)))) (pa_nil)))) (pss_cons (ps_for (passes_of rfl) rfl (pi_range1 rfl M.range (pa_cons (pe_int) (pa_nil))) (pg_name 7 sc__law_bound_heads.nd) (pss_one (ps_set 6 sc__law_bound_heads.nd (pe_bin op_addT addT_ok (pe_bin op_addT addT_ok (pe_lst (pa_cons (pe_tup (pa_cons (pe_str) (pa_nil))) (pa_nil))) (pe_name 6)) (pe_name 6))))) (pss_cons (ps_set 6 sc__law_bound_heads.nd (pe_bin op_addT addT_ok (pe_lc (own := [("turn", 7)]) rfl sc__law_bound_heads.nd (pi_range1 rfl M.range (pa_cons (pe_bin op_sub1 subT_ok (pe_name 3) (pe_name 4)) (pa_nil))) (show BlkOk ["store", "x", "levels", "seals", "outer", "side", "body", "turn", "call"] (defScope f__law_bound_heads) _ _ from ⟨rfl, by decide +kernel, by decide +kernel, by decide +kernel, by decide +kernel⟩) (by decide) (fun _ _ _ _ _ => pg_name 7 sc__law_bound_heads.nd) (fun _ _ _ _ _ => pts_nil) (fun _ _ _ _ _ => pe_tup (pa_cons (pe_str) (pa_nil)))) (pe_name 6))) (pss_cons (ps_set 8 sc__law_bound_heads.nd (pe_bin op_addT addT_ok (pe_bin op_addT addT_ok (pe_lst (pa_cons (pe_tup (pa_cons (pe_str) (pa_nil))) (pa_cons (pe_tup (pa_cons (pe_str) (pa_cons (pe_name 1) (pa_nil)))) (pa_nil)))) (pe_name 6)) (pe_callI 0 F__law_chain (hr.mono hk__law_chain) tk rfl (pa_cons (pe_name 1) (pa_cons (pe_name 2) (pa_cons (pe_int) (pa_nil))))))) (pss_one (ps_ret (pe_bin op_addT addT_ok (pe_bin op_addT addT_ok (pe_bin op_addT addT_ok (pe_lst (pa_cons (pe_tup (pa_cons (pe_str) (pa_nil))) (pa_nil))) (pe_lc (own := [("turn", 7)]) rfl sc__law_bound_heads.nd (pi_range1 rfl M.range (pa_cons (pe_name 4) (pa_nil))) (show BlkOk ["store", "x", "levels", "seals", "outer", "side", "body", "turn", "call"] (defScope f__law_bound_heads) _ _ from ⟨rfl, by decide +kernel, by decide +kernel, by decide +kernel, by decide +kernel⟩) (by decide) (fun _ _ _ _ _ => pg_name 7 sc__law_bound_heads.nd) (fun _ _ _ _ _ => pts_nil) (fun _ _ _ _ _ => pe_tup (pa_cons (pe_str) (pa_nil))))) (pe_name 8)) (pe_callI 0 F__law_chain (hr.mono hk__law_chain) tk rfl (pa_cons (pe_name 1) (pa_cons (pe_bin op_addT addT_ok (pe_bin op_fdivW divT_ok (pe_name 5) (pe_int)) (pe_int)) (pa_cons (pe_name 5) (pa_nil)))))))))))))))
theorem sc__law_told : FnScope ["term", "node", "e", "flags", "told", "k"] ["term", "node"] (defScope f__law_told) := ⟨rfl, rfl, rfl, by decide +kernel, rfl, by decide +kernel, by decide +kernel⟩
theorem t__law_told {k : Nat} (M : Md P w K mg base) {k_reduced_at : Nat} {g_reduced_at : PF} (F_reduced_at : Fn1 P w K mg base k_reduced_at "reduced_at" ["term", "node"] (spP K g_reduced_at)) (hk_reduced_at : k_reduced_at ≤ k) {cdv : Value} {A : Around} {outer : List Env} {s : Shared} {H : Hp} {E : XK} (hr : Room k (cxD P w K mg base ["term", "node", "e", "flags", "told", "k"] "_law_told" f__law_told cdv A outer s H E).A) (tk : Takes (cxD P w K mg base ["term", "node", "e", "flags", "told", "k"] "_law_told" f__law_told cdv A outer s H E) (wD E)) :
    PSst (cxD P w K mg base ["term", "node", "e", "flags", "told", "k"] "_law_told" f__law_told cdv A outer s H E) (wD E) (defBody f__law_told) (x__law_told g_reduced_at (csK K clsN) (fun C => PySem.W.exmOne K (.ref C) (.ref (He.ga K "Trouble"))) (fun C n => PySem.W.kitOne K (.ref C) (.ref (He.ga K n))) (fun C => PySem.W.kitOne K (.ref C) (.type "ValueError"))) := by
  have hu : (cxD P w K mg base ["term", "node", "e", "flags", "told", "k"] "_law_told" f__law_told cdv A outer s H E).A.units + 65 < cLine := by have := hr.un; omega
  have hu4 : (cxD P w K mg base ["term", "node", "e", "flags", "told", "k"] "_law_told" f__law_told cdv A outer s H E).A.units + 64 < cLine := by have := hr.un; omega
  exact pss_cons (ps_tryAsC 2 sc__law_told.nd ⟨rfl, rfl, .inl M.c_Trouble⟩ tk (fun W2 pn xe tk psT => pss_one (ps_ret (pe_lst (pa_cons (pe_str) (pa_cons (pe_call F_reduced_at (hr.mono hk_reduced_at) tk rfl (pa_cons (pe_name 0) (pa_cons (pe_name 1) (pa_nil)))) (pa_nil)))))) (fun a oe C d pn hC hz hf => pss_cons (ps_set 3 sc__law_told.nd (pe_lst (pa_cons (pe_isX (holds_suite hz hf) (M.xq C hC) rfl M.isinstance (L2.pe_glob (v := .ref (He.ga K "BadText")) rfl M.c_BadText rfl) (fun _ r => r) (pe_name 2)) (pa_cons (pe_isX (holds_suite hz hf) (M.xq C hC) rfl M.isinstance (L2.pe_glob (v := .ref (He.ga K "UnknownName")) rfl M.c_UnknownName rfl) (fun _ r => r) (pe_name 2)) (pa_cons (pe_isX (holds_suite hz hf) (M.xq C hC) rfl M.isinstance (L2.pe_glob (v := .ref (He.ga K "Twice")) rfl M.c_Twice rfl) (fun _ r => r) (pe_name 2)) (pa_cons (pe_isX (holds_suite hz hf) (M.xq C hC) rfl M.isinstance (L2.pe_glob (v := .ref (He.ga K "Circle")) rfl M.c_Circle rfl) (fun _ r => r) (pe_name 2)) (pa_nil))))))) (pss_cons (ps_set 3 sc__law_told.nd (pe_bin op_addT addT_ok (pe_name 3) (pe_lst (pa_cons (pe_isX (holds_suite hz hf) (M.xq C hC) rfl M.isinstance (L2.pe_glob (v := .ref (He.ga K "BadRow")) rfl M.c_BadRow rfl) (fun _ r => r) (pe_name 2)) (pa_cons (pe_isX (holds_suite hz hf) (M.xq C hC) rfl M.isinstance (L2.pe_glob (v := .ref (He.ga K "NotThere")) rfl M.c_NotThere rfl) (fun _ r => r) (pe_name 2)) (pa_cons (pe_isX (holds_suite hz hf) (M.xq C hC) rfl M.isinstance (L2.pe_glob (v := .ref (He.ga K "TooDeep")) rfl M.c_TooDeep rfl) (fun _ r => r) (pe_name 2)) (pa_cons (pe_isX (holds_suite hz hf) (M.xq C hC) rfl M.isinstance (L2.pe_glob (v := .ref (He.ga K "TooBig")) rfl M.c_TooBig rfl) (fun _ r => r) (pe_name 2)) (pa_nil)))))))) (pss_cons (ps_set 3 sc__law_told.nd (pe_bin op_addT addT_ok (pe_name 3) (pe_lst (pa_cons (pe_isX (holds_suite hz hf) (M.xq C hC) rfl M.isinstance (L2.pe_glob (v := .ref (He.ga K "NoMeaning")) rfl M.c_NoMeaning rfl) (fun _ r => r) (pe_name 2)) (pa_cons (pe_isX (holds_suite hz hf) (M.xq C hC) rfl M.isinstance (L2.pe_glob (v := .ref (He.ga K "NoSolution")) rfl M.c_NoSolution rfl) (fun _ r => r) (pe_name 2)) (pa_cons (pe_isX (holds_suite hz hf) (M.xq C hC) rfl M.isinstance (L2.pe_glob (v := .ref (He.ga K "Rough")) rfl M.c_Rough rfl) (fun _ r => r) (pe_name 2)) (pa_nil))))))) (pss_cons (ps_set 3 sc__law_told.nd (pe_bin op_addT addT_ok (pe_name 3) (pe_lst (pa_cons (pe_isX (holds_suite hz hf) (M.xq C hC) rfl M.isinstance (L2.pe_glob (v := .ref (He.ga K "InUse")) rfl M.c_InUse rfl) (fun _ r => r) (pe_name 2)) (pa_cons (pe_isX (holds_suite hz hf) (M.xq C hC) rfl M.isinstance (L2.pe_glob (v := .ref (He.ga K "TooWide")) rfl M.c_TooWide rfl) (fun _ r => r) (pe_name 2)) (pa_cons (pe_isX (holds_suite hz hf) (M.xq C hC) rfl M.isinstance (L2.pe_glob (v := .ref (He.ga K "Stuck")) rfl M.c_Stuck rfl) (fun _ r => r) (pe_name 2)) (pa_cons (pe_isX (holds_suite hz hf) (M.xq C hC) rfl M.isinstance (L2.pe_glob (v := .ref (He.ga K "TooLong")) rfl M.c_TooLong rfl) (fun _ r => r) (pe_name 2)) (pa_nil)))))))) (pss_cons (ps_setLcH 4 (own := [("k", 5)]) (hotP_suite hz hf) sc__law_told.nd rfl M.range (pa_cons (pe_int) (pa_nil)) (show BlkOk ["term", "node", "e", "flags", "told", "k"] (defScope f__law_told) _ _ from ⟨rfl, by decide +kernel, by decide +kernel, by decide +kernel, by decide +kernel⟩) (by decide) (fun _ _ _ _ _ => pg_name 5 sc__law_told.nd) (fun _ _ _ _ _ => pts_one (PWt.pt (pw_and (pt_tru (pe_ix ix_seq ixT_ok (pe_name 3) (pe_name 5) (fun _ _ => rfl))) (pw_and1 (pt_tru (pe_isX (holds_suite hz hf) (M.xq C hC) rfl M.isinstance (pe_bltn (v := .ty "ValueError") rfl M.ValueError bt_ValueError rfl) (fun _ r => r) (pe_name 2))))))) (fun _ _ _ _ _ => pe_name 5)) (pss_cons (ps_if (pt_cmp (op_eqD hu4) eqT_ok (pe_name 4) (pe_lst (pa_cons (pe_int) (pa_nil))) (by rfl)) (pss_one (ps_ret (pe_lst (pa_cons (pe_str) (pa_cons (pe_fld (M.xf C hC) (M.xn C hC "number" (by decide)) hz hf (pe_name 2)) (pa_nil)))))) (pss_nil)) (pss_one (ps_if (pt_cmp (op_inT hu) inT_ok (pe_name 4) (pe_lst (pa_cons (pe_lst (pa_cons (pe_int) (pa_nil))) (pa_cons (pe_lst (pa_cons (pe_int) (pa_nil))) (pa_nil)))) (by rfl)) (pss_one (ps_ret (pe_lst (pa_cons (pe_ix ix_seq ixT_ok (pe_lst (pa_cons (pe_str) (pa_cons (pe_str) (pa_nil)))) (pe_bin op_sub1 subT_ok (pe_ix ix_seq ixT_ok (pe_name 4) (pe_int) (fun _ _ => rfl)) (pe_int)) (fun _ _ => rfl)) (pa_cons (pe_fld (M.xf C hC) (M.xn C hC "limit" (by decide)) hz hf (pe_name 2)) (pa_nil)))))) (pss_nil)))))))))) (pss_one (ps_ret (pe_lst (pa_cons (pe_str) (pa_cons (pe_non) (pa_nil))))))
theorem sc__law_due : FnScope ["heads", "ends", "n", "reduct", "new", "level"] ["heads", "ends", "n", "reduct"] (defScope f__law_due) := ⟨rfl, rfl, rfl, by decide +kernel, rfl, by decide +kernel, by decide +kernel⟩
theorem t__law_due {k : Nat} (M : Md P w K mg base) {k__law_tree : Nat} {g__law_tree : PF} (F__law_tree : Fn1 P w K mg base k__law_tree "_law_tree" ["heads"] (spP K g__law_tree)) (hk__law_tree : k__law_tree ≤ k) {k__law_term : Nat} {g__law_term : PF} (F__law_term : Fn1 P w K mg base k__law_term "_law_term" ["heads"] (spP K g__law_term)) (hk__law_term : k__law_term ≤ k) {cdv : Value} {A : Around} {outer : List Env} {s : Shared} {H : Hp} {E : XK} (hr : Room k (cxD P w K mg base ["heads", "ends", "n", "reduct", "new", "level"] "_law_due" f__law_due cdv A outer s H E).A) (tk : Takes (cxD P w K mg base ["heads", "ends", "n", "reduct", "new", "level"] "_law_due" f__law_due cdv A outer s H E) (wD E)) :
    PSst (cxD P w K mg base ["heads", "ends", "n", "reduct", "new", "level"] "_law_due" f__law_due cdv A outer s H E) (wD E) (defBody f__law_due) (x__law_due g__law_tree g__law_term) := by
  have hu : (cxD P w K mg base ["heads", "ends", "n", "reduct", "new", "level"] "_law_due" f__law_due cdv A outer s H E).A.units + 65 < cLine := by have := hr.un; omega
  have hu4 : (cxD P w K mg base ["heads", "ends", "n", "reduct", "new", "level"] "_law_due" f__law_due cdv A outer s H E).A.units + 64 < cLine := by have := hr.un; omega
  exact pss_cons (ps_if (pt_cmp (op_eqD hu4) eqT_ok (pe_callB call_lenT lenT_ok rfl M.len bt_len (pa_cons (pe_name 3) (pa_nil))) (pe_int) (by rfl)) (pss_one (ps_ret (pe_lst (pa_cons (pe_str) (pa_cons (pe_name 2) (pa_nil)))))) (pss_nil)) (pss_cons (ps_set 4 sc__law_due.nd (pe_bin op_addT addT_ok (pe_bin op_addT addT_ok (pe_slice (pe_name 0) (po_none) (po_some (pe_name 2))) (pe_name 3)) (pe_slice (pe_name 0) (po_some (pe_ix ix_seq ixT_ok (pe_name 1) (pe_name 2) (fun _ _ => rfl))) (po_none)))) (pss_cons (ps_if (pt_tru (pe_callB (cr_any rfl) anyT_ok rfl M.any bt_any (pa_cons (pe_lc (own := [("level", 5)]) rfl sc__law_due.nd (pi_seq (pe_ix ix_seq ixT_ok (pe_call F__law_tree (hr.mono hk__law_tree) tk rfl (pa_cons (pe_name 4) (pa_nil))) (pe_int) (fun _ _ => rfl))) (show BlkOk ["heads", "ends", "n", "reduct", "new", "level"] (defScope f__law_due) _ _ from ⟨rfl, by decide +kernel, by decide +kernel, by decide +kernel, by decide +kernel⟩) (by decide) (fun _ _ _ _ _ => pg_name 5 sc__law_due.nd) (fun _ _ _ _ _ => pts_nil) (fun _ _ _ _ _ => pe_cmp op_gt intT_ok (pe_name 5) (pe_int) (by rfl))) (pa_nil)))) (pss_one (ps_ret (pe_lst (pa_cons (pe_str) (pa_cons (pe_int) (pa_nil)))))) (pss_nil)) (pss_cons (ps_if (pt_cmp op_gt intT_ok (pe_callB call_lenT lenT_ok rfl M.len bt_len (pa_cons (pe_name 4) (pa_nil))) (pe_int) (by rfl)) (pss_one (ps_ret (pe_lst (pa_cons (pe_str) (pa_cons (pe_int) (pa_nil)))))) (pss_nil)) (pss_one (ps_ret (pe_lst (pa_cons (pe_str) (pa_cons (pe_call F__law_term (hr.mono hk__law_term) tk rfl (pa_cons (pe_name 4) (pa_nil))) (pa_nil)))))))))
theorem sc_law : FnScope ["script", "store", "names", "turn", "words", "heads", "size", "tree", "term", "reducts", "n", "found", "nodes", "dues", "lost", "told"] ["script"] (defScope f_law) := ⟨rfl, rfl, rfl, by decide +kernel, rfl, by decide +kernel, by decide +kernel⟩
theorem t_law {k : Nat} (M : Md P w K mg base) {k__law_store : Nat} {g__law_store : PF} (F__law_store : Fn1 P w K mg base k__law_store "_law_store" ["script"] (spP K g__law_store)) (hk__law_store : k__law_store ≤ k) {k__law_letters : Nat} {g__law_letters : IF} (F__law_letters : Fn1 P w K mg base k__law_letters "_law_letters" ["store", "many"] (spI K g__law_letters)) (hk__law_letters : k__law_letters ≤ k) {k__law_take : Nat} {g__law_take : IF} (F__law_take : Fn1 P w K mg base k__law_take "_law_take" ["store", "many"] (spI K g__law_take)) (hk__law_take : k__law_take ≤ k) {k__law_bound_heads : Nat} {g__law_bound_heads : IF} (F__law_bound_heads : Fn1 P w K mg base k__law_bound_heads "_law_bound_heads" ["store", "x"] (spI K g__law_bound_heads)) (hk__law_bound_heads : k__law_bound_heads ≤ k) {k__law_amount : Nat} {g__law_amount : IF} (F__law_amount : Fn1 P w K mg base k__law_amount "_law_amount" ["store", "low", "high"] (spI K g__law_amount)) (hk__law_amount : k__law_amount ≤ k) {k__law_some_heads : Nat} {g__law_some_heads : IF} (F__law_some_heads : Fn1 P w K mg base k__law_some_heads "_law_some_heads" ["store", "names", "consts", "uses", "kinds", "size", "deep", "free"] (spI K g__law_some_heads)) (hk__law_some_heads : k__law_some_heads ≤ k) {k__law_wrapped : Nat} {g__law_wrapped : IF} (F__law_wrapped : Fn1 P w K mg base k__law_wrapped "_law_wrapped" ["store", "heads", "names", "words"] (spI K g__law_wrapped)) (hk__law_wrapped : k__law_wrapped ≤ k) {k__law_tree : Nat} {g__law_tree : PF} (F__law_tree : Fn1 P w K mg base k__law_tree "_law_tree" ["heads"] (spP K g__law_tree)) (hk__law_tree : k__law_tree ≤ k) {k__law_term : Nat} {g__law_term : PF} (F__law_term : Fn1 P w K mg base k__law_term "_law_term" ["heads"] (spP K g__law_term)) (hk__law_term : k__law_term ≤ k) {k__law_reduct : Nat} {g__law_reduct : PF} (F__law_reduct : Fn1 P w K mg base k__law_reduct "_law_reduct" ["heads", "tree", "n"] (spP K g__law_reduct)) (hk__law_reduct : k__law_reduct ≤ k) {k__law_due : Nat} {g__law_due : PF} (F__law_due : Fn1 P w K mg base k__law_due "_law_due" ["heads", "ends", "n", "reduct"] (spP K g__law_due)) (hk__law_due : k__law_due ≤ k) {k_redexes : Nat} {g_redexes : PF} (F_redexes : Fn1 P w K mg base k_redexes "redexes" ["term"] (spP K g_redexes)) (hk_redexes : k_redexes ≤ k) {k__law_same : Nat} {g__law_same : PF} (F__law_same : Fn1 P w K mg base k__law_same "_law_same" ["one", "two"] (spP K g__law_same)) (hk__law_same : k__law_same ≤ k) {k__law_told : Nat} {g__law_told : PF} (F__law_told : Fn1 P w K mg base k__law_told "_law_told" ["term", "node"] (spP K g__law_told)) (hk__law_told : k__law_told ≤ k) {cdv : Value} {A : Around} {outer : List Env} {s : Shared} {H : Hp} {E : XK} (hr : Room k (cxD P w K mg base ["script", "store", "names", "turn", "words", "heads", "size", "tree", "term", "reducts", "n", "found", "nodes", "dues", "lost", "told"] "law" f_law cdv A outer s H E).A) (tk : Takes (cxD P w K mg base ["script", "store", "names", "turn", "words", "heads", "size", "tree", "term", "reducts", "n", "found", "nodes", "dues", "lost", "told"] "law" f_law cdv A outer s H E) (wD E)) :
    PSst (cxD P w K mg base ["script", "store", "names", "turn", "words", "heads", "size", "tree", "term", "reducts", "n", "found", "nodes", "dues", "lost", "told"] "law" f_law cdv A outer s H E) (wD E) (defBody f_law) (x_law g__law_store g__law_letters g__law_take g__law_bound_heads g__law_amount g__law_some_heads g__law_wrapped g__law_tree g__law_term g__law_reduct g__law_due g_redexes g__law_same g__law_told) := by
  have hu : (cxD P w K mg base ["script", "store", "names", "turn", "words", "heads", "size", "tree", "term", "reducts", "n", "found", "nodes", "dues", "lost", "told"] "law" f_law cdv A outer s H E).A.units + 65 < cLine := by have := hr.un; omega
  have hu4 : (cxD P w K mg base ["script", "store", "names", "turn", "words", "heads", "size", "tree", "term", "reducts", "n", "found", "nodes", "dues", "lost", "told"] "law" f_law cdv A outer s H E).A.units + 64 < cLine := by have := hr.un; omega
  exact pss_cons (ps_set 1 sc_law.nd (pe_call F__law_store (hr.mono hk__law_store) tk rfl (pa_cons (pe_name 0) (pa_nil)))) (pss_cons (ps_setLc 2 (own := [("turn", 3)]) rfl sc_law.nd (pi_range1 rfl M.range (pa_cons (pe_int) (pa_nil))) (show BlkOk ["script", "store", "names", "turn", "words", "heads", "size", "tree", "term", "reducts", "n", "found", "nodes", "dues", "lost", "told"] (defScope f_law) _ _ from ⟨rfl, by decide +kernel, by decide +kernel, by decide +kernel, by decide +kernel⟩) (by decide) (fun _ _ _ _ _ => pg_name 3 sc_law.nd) (fun _ _ _ _ _ => pts_nil) (fun _ _ _ _ _ => pe_callI 1 F__law_letters (hr.mono hk__law_letters) takes0 rfl (pa_cons (pe_bin op_addT addT_ok (pe_int) (pe_callI 1 F__law_take (hr.mono hk__law_take) takes0 rfl (pa_cons (pe_int) (pa_nil)))) (pa_nil)))) (pss_cons (ps_expr (pe_app 2 (pa_cons (pe_ixN 2 (pe_callI 1 F__law_take (hr.mono hk__law_take) tk rfl (pa_cons (pe_int) (pa_nil))) (fun _ _ => rfl)) (pa_nil)))) (pss_cons (ps_set 4 sc_law.nd (pe_lst (pa_cons (pe_ixN 2 (pe_int) (fun _ _ => rfl)) (pa_cons (pe_callI 1 F__law_letters (hr.mono hk__law_letters) tk rfl (pa_cons (pe_bin op_addT addT_ok (pe_int) (pe_callI 1 F__law_take (hr.mono hk__law_take) tk rfl (pa_cons (pe_int) (pa_nil)))) (pa_nil))) (pa_nil))))) (pss_cons (ps_if (pt_cmp (op_eqD hu4) eqT_ok (pe_callI 1 F__law_take (hr.mono hk__law_take) tk rfl (pa_cons (pe_int) (pa_nil))) (pe_int) (by rfl)) (pss_one (ps_set 5 sc_law.nd (pe_callI 1 F__law_bound_heads (hr.mono hk__law_bound_heads) tk rfl (pa_cons (pe_ixN 2 (pe_int) (fun _ _ => rfl)) (pa_nil))))) (pss_cons (ps_set 6 sc_law.nd (pe_ix ix_seq ixT_ok (pe_lst (pa_cons (pe_callI 1 F__law_amount (hr.mono hk__law_amount) tk rfl (pa_cons (pe_int) (pa_cons (pe_int) (pa_nil)))) (pa_cons (pe_int) (pa_nil)))) (pe_callTy call_int1 toIntT_ok rfl M.int bt_int (pa_cons (pe_cmp (op_eqD hu4) eqT_ok (pe_callI 1 F__law_take (hr.mono hk__law_take) tk rfl (pa_cons (pe_int) (pa_nil))) (pe_int) (by rfl)) (pa_nil))) (fun _ _ => rfl))) (pss_cons (ps_set 5 sc_law.nd (pe_callI 1 F__law_some_heads (hr.mono hk__law_some_heads) tk rfl (pa_cons (pe_name 2) (pa_cons (pe_name 4) (pa_cons (pe_name 4) (pa_cons (pe_lst (pa_cons (pe_str) (pa_cons (pe_str) (pa_nil)))) (pa_cons (pe_name 6) (pa_cons (pe_int) (pa_cons (pe_cmp (op_eqD hu4) eqT_ok (pe_callI 1 F__law_take (hr.mono hk__law_take) tk rfl (pa_cons (pe_int) (pa_nil))) (pe_int) (by rfl)) (pa_nil)))))))))) (pss_one (ps_for (passes_of rfl) rfl (pi_range1 rfl M.range (pa_cons (pe_bin op_addT addT_ok (pe_int) (pe_callI 1 F__law_take (hr.mono hk__law_take) tk rfl (pa_cons (pe_int) (pa_nil)))) (pa_nil))) (pg_name 3 sc_law.nd) (pss_one (ps_set 5 sc_law.nd (pe_callI 1 F__law_wrapped (hr.mono hk__law_wrapped) tk rfl (pa_cons (pe_name 5) (pa_cons (pe_name 2) (pa_cons (pe_name 4) (pa_nil)))))))))))) (pss_cons (ps_set 7 sc_law.nd (pe_call F__law_tree (hr.mono hk__law_tree) tk rfl (pa_cons (pe_name 5) (pa_nil)))) (pss_cons (ps_set 8 sc_law.nd (pe_call F__law_term (hr.mono hk__law_term) tk rfl (pa_cons (pe_name 5) (pa_nil)))) (pss_cons (ps_set 9 sc_law.nd (pe_lc (own := [("n", 10)]) rfl sc_law.nd (pi_range1 rfl M.range (pa_cons (pe_callB call_lenT lenT_ok rfl M.len bt_len (pa_cons (pe_name 5) (pa_nil))) (pa_nil))) (show BlkOk ["script", "store", "names", "turn", "words", "heads", "size", "tree", "term", "reducts", "n", "found", "nodes", "dues", "lost", "told"] (defScope f_law) _ _ from ⟨rfl, by decide +kernel, by decide +kernel, by decide +kernel, by decide +kernel⟩) (by decide) (fun _ _ _ _ _ => pg_name 10 sc_law.nd) (fun _ _ _ _ _ => pts_nil) (fun _ _ _ _ _ => pe_call F__law_reduct (hr.mono hk__law_reduct) takes0 rfl (pa_cons (pe_name 5) (pa_cons (pe_name 7) (pa_cons (pe_name 10) (pa_nil))))))) (pss_cons (ps_setLc 11 (own := [("n", 10)]) rfl sc_law.nd (pi_range1 rfl M.range (pa_cons (pe_callB call_lenT lenT_ok rfl M.len bt_len (pa_cons (pe_name 5) (pa_nil))) (pa_nil))) (show BlkOk ["script", "store", "names", "turn", "words", "heads", "size", "tree", "term", "reducts", "n", "found", "nodes", "dues", "lost", "told"] (defScope f_law) _ _ from ⟨rfl, by decide +kernel, by decide +kernel, by decide +kernel, by decide +kernel⟩) (by decide) (fun _ _ _ _ _ => pg_name 10 sc_law.nd) (fun _ _ _ _ _ => pts_one (pt_cmp op_gt intT_ok (pe_callB call_lenT lenT_ok rfl M.len bt_len (pa_cons (pe_ix ix_seq ixT_ok (pe_name 9) (pe_name 10) (fun _ _ => rfl)) (pa_nil))) (pe_int) (by rfl))) (fun _ _ _ _ _ => pe_name 10)) (pss_cons (ps_set 12 sc_law.nd (pet_listRg rfl M.list rfl M.range (pe_callB call_lenT lenT_ok rfl M.len bt_len (pa_cons (pe_name 5) (pa_nil))))) (pss_cons (ps_if (pt_cmp op_gt intT_ok (pe_callB call_lenT lenT_ok rfl M.len bt_len (pa_cons (pe_name 5) (pa_nil))) (pe_int) (by rfl)) (pss_one (ps_set 12 sc_law.nd (pe_bin op_addT addT_ok (pe_slice (pe_name 11) (po_none) (po_some (pe_int))) (pe_lc (own := [("turn", 3)]) rfl sc_law.nd (pi_range1 rfl M.range (pa_cons (pe_int) (pa_nil))) (show BlkOk ["script", "store", "names", "turn", "words", "heads", "size", "tree", "term", "reducts", "n", "found", "nodes", "dues", "lost", "told"] (defScope f_law) _ _ from ⟨rfl, by decide +kernel, by decide +kernel, by decide +kernel, by decide +kernel⟩) (by decide) (fun _ _ _ _ _ => pg_name 3 sc_law.nd) (fun _ _ _ _ _ => pts_nil) (fun _ _ _ _ _ => pe_callI 1 F__law_take (hr.mono hk__law_take) takes0 rfl (pa_cons (pe_callB call_lenT lenT_ok rfl M.len bt_len (pa_cons (pe_name 5) (pa_nil))) (pa_nil))))))) (pss_nil)) (pss_cons (ps_setLc 13 (own := [("n", 10)]) rfl sc_law.nd (pi_seq (pe_name 12)) (show BlkOk ["script", "store", "names", "turn", "words", "heads", "size", "tree", "term", "reducts", "n", "found", "nodes", "dues", "lost", "told"] (defScope f_law) _ _ from ⟨rfl, by decide +kernel, by decide +kernel, by decide +kernel, by decide +kernel⟩) (by decide) (fun _ _ _ _ _ => pg_name 10 sc_law.nd) (fun _ _ _ _ _ => pts_nil) (fun _ _ _ _ _ => pe_call F__law_due (hr.mono hk__law_due) takes0 rfl (pa_cons (pe_name 5) (pa_cons (pe_ix ix_seq ixT_ok (pe_name 7) (pe_int) (fun _ _ => rfl)) (pa_cons (pe_name 10) (pa_cons (pe_ix ix_seq ixT_ok (pe_name 9) (pe_name 10) (fun _ _ => rfl)) (pa_nil))))))) (pss_cons (ps_set 14 sc_law.nd (pe_lst (pa_cons (pe_callB call_lenT lenT_ok rfl M.len bt_len (pa_cons (pe_name 5) (pa_nil))) (pa_cons (pe_neg (pe_int)) (pa_cons (pe_neg (pe_callB call_lenT lenT_ok rfl M.len bt_len (pa_cons (pe_name 5) (pa_nil)))) (pa_cons (pe_bin op_addT addT_ok (pe_callB call_lenT lenT_ok rfl M.len bt_len (pa_cons (pe_name 5) (pa_nil))) (pe_int)) (pa_cons (pe_int) (pa_cons (pe_neg (pe_int)) (pa_nil))))))))) (pss_cons (ps_for (passes_of rfl) rfl (pi_range1 rfl M.range (pa_cons (pe_int) (pa_nil))) (pg_name 3 sc_law.nd) (pss_cons (ps_set 15 sc_law.nd (pe_call F_redexes (hr.mono hk_redexes) tk rfl (pa_cons (pe_name 8) (pa_nil)))) (pss_cons (ps_if (pt_bor (pt_not (pt_tru (pe_call F__law_same (hr.mono hk__law_same) tk rfl (pa_cons (pe_name 15) (pa_cons (pe_name 11) (pa_nil))))))) (pss_one (ps_ret (pe_bl))) (pss_nil)) (pss_cons (ps_expr (pe_app 15 (pa_cons (pe_int) (pa_nil)))) (pss_cons (ps_if (pt_not (pt_tru (pe_call F__law_same (hr.mono hk__law_same) tk rfl (pa_cons (pe_lc (own := [("n", 10)]) rfl sc_law.nd (pi_seq (pe_name 12)) (show BlkOk ["script", "store", "names", "turn", "words", "heads", "size", "tree", "term", "reducts", "n", "found", "nodes", "dues", "lost", "told"] (defScope f_law) _ _ from ⟨rfl, by decide +kernel, by decide +kernel, by decide +kernel, by decide +kernel⟩) (by decide) (fun _ _ _ _ _ => pg_name 10 sc_law.nd) (fun _ _ _ _ _ => pts_nil) (fun _ _ _ _ _ => pe_call F__law_told (hr.mono hk__law_told) takes0 rfl (pa_cons (pe_name 8) (pa_cons (pe_name 10) (pa_nil))))) (pa_cons (pe_name 13) (pa_nil)))))) (pss_one (ps_ret (pe_bl))) (pss_nil)) (pss_one (ps_if (pt_not (pt_tru (pe_call F__law_same (hr.mono hk__law_same) tk rfl (pa_cons (pe_lc (own := [("n", 10)]) rfl sc_law.nd (pi_seq (pe_name 14)) (show BlkOk ["script", "store", "names", "turn", "words", "heads", "size", "tree", "term", "reducts", "n", "found", "nodes", "dues", "lost", "told"] (defScope f_law) _ _ from ⟨rfl, by decide +kernel, by decide +kernel, by decide +kernel, by decide +kernel⟩) (by decide) (fun _ _ _ _ _ => pg_name 10 sc_law.nd) (fun _ _ _ _ _ => pts_nil) (fun _ _ _ _ _ => pe_call F__law_told (hr.mono hk__law_told) takes0 rfl (pa_cons (pe_name 8) (pa_cons (pe_name 10) (pa_nil))))) (pa_cons (pe_lc (own := [("n", 10)]) rfl sc_law.nd (pi_seq (pe_name 14)) (show BlkOk ["script", "store", "names", "turn", "words", "heads", "size", "tree", "term", "reducts", "n", "found", "nodes", "dues", "lost", "told"] (defScope f_law) _ _ from ⟨rfl, by decide +kernel, by decide +kernel, by decide +kernel, by decide +kernel⟩) (by decide) (fun _ _ _ _ _ => pg_name 10 sc_law.nd) (fun _ _ _ _ _ => pts_nil) (fun _ _ _ _ _ => pe_lst (pa_cons (pe_str) (pa_cons (pe_name 10) (pa_nil))))) (pa_nil)))))) (pss_one (ps_ret (pe_bl))) (pss_nil)))))))) (pss_one (ps_ret (pe_call F__law_same (hr.mono hk__law_same) tk rfl (pa_cons (pe_name 8) (pa_cons (pe_call F__law_term (hr.mono hk__law_term) tk rfl (pa_cons (pe_name 5) (pa_nil))) (pa_nil)))))))))))))))))))
end
end Rd
end TL

set_option maxHeartbeats 2000000
/-! each def keeps its promise -/
namespace TL
open PySem PySem.Spec PyProof.Rows L2
namespace Rd
abbrev dd : Nat := 150
structure Ds (K : PySem.W.Frag) (mg : Str → Option Value) : Prop where
  d_parts_of : Df K mg "parts_of" f_parts_of ["term"]
  d_rebuilt : Df K mg "rebuilt" f_rebuilt ["term", "parts"]
  d_walk : Df K mg "walk" f_walk ["term"]
  d_binder_in : Df K mg "binder_in" f_binder_in ["scope", "name"]
  d_is_free : Df K mg "is_free" f_is_free ["row"]
  d_first_free : Df K mg "first_free" f_first_free ["term"]
  d_measure : Df K mg "measure" f_measure ["rows"]
  d_swap_measure : Df K mg "swap_measure" f_swap_measure ["term", "name", "closed"]
  d_swapped : Df K mg "swapped" f_swapped ["term", "name", "closed"]
  d_refuse_great : Df K mg "refuse_great" f_refuse_great ["deep", "size"]
  d_child_slots : Df K mg "child_slots" f_child_slots ["term"]
  d_node_rows : Df K mg "node_rows" f_node_rows ["term"]
  d_rows_with : Df K mg "rows_with" f_rows_with ["term", "node"]
  d_node_count : Df K mg "node_count" f_node_count ["term"]
  d_term_depth : Df K mg "term_depth" f_term_depth ["term"]
  d_replaced_depth : Df K mg "replaced_depth" f_replaced_depth ["rows", "node", "size", "other"]
  d_with_term : Df K mg "with_term" f_with_term ["term", "node", "other"]
  d_is_redex : Df K mg "is_redex" f_is_redex ["here"]
  d_redexes : Df K mg "redexes" f_redexes ["term"]
  d_reduced_root : Df K mg "reduced_root" f_reduced_root ["here"]
  d_reduced_measure : Df K mg "reduced_measure" f_reduced_measure ["here"]
  d_reduced_at : Df K mg "reduced_at" f_reduced_at ["term", "node"]
  d__law_mixed : Df K mg "_law_mixed" f__law_mixed ["number"]
  d__law_store : Df K mg "_law_store" f__law_store ["script"]
  d__law_advance : Df K mg "_law_advance" f__law_advance ["store"]
  d__law_take : Df K mg "_law_take" f__law_take ["store", "many"]
  d__law_pick : Df K mg "_law_pick" f__law_pick ["store", "things"]
  d__law_amount : Df K mg "_law_amount" f__law_amount ["store", "low", "high"]
  d__law_letters : Df K mg "_law_letters" f__law_letters ["store", "many"]
  d__law_leaf : Df K mg "_law_leaf" f__law_leaf ["store", "kinds", "many"]
  d__law_form : Df K mg "_law_form" f__law_form ["store", "kinds", "many", "steps"]
  d__law_ground : Df K mg "_law_ground" f__law_ground ["store", "kinds"]
  d__law_same : Df K mg "_law_same" f__law_same ["one", "two"]
  d__law_arity : Df K mg "_law_arity" f__law_arity ["word"]
  d__law_term : Df K mg "_law_term" f__law_term ["heads"]
  d__law_end_head : Df K mg "_law_end_head" f__law_end_head ["store", "names", "consts", "uses", "scope", "free", "way"]
  d__law_some_heads : Df K mg "_law_some_heads" f__law_some_heads ["store", "names", "consts", "uses", "kinds", "size", "deep", "free"]
  d__law_tree : Df K mg "_law_tree" f__law_tree ["heads"]
  d__law_binder : Df K mg "_law_binder" f__law_binder ["heads", "parents", "n"]
  d__law_chain : Df K mg "_law_chain" f__law_chain ["store", "x", "levels", "nodes"]
  d__law_closed : Df K mg "_law_closed" f__law_closed ["heads"]
  d__law_reduct : Df K mg "_law_reduct" f__law_reduct ["heads", "tree", "n"]
  d__law_wrapped : Df K mg "_law_wrapped" f__law_wrapped ["store", "heads", "names", "words"]
  d__law_bound_heads : Df K mg "_law_bound_heads" f__law_bound_heads ["store", "x"]
  d__law_told : Df K mg "_law_told" f__law_told ["term", "node"]
  d__law_due : Df K mg "_law_due" f__law_due ["heads", "ends", "n", "reduct"]
  d_law : Df K mg "law" f_law ["script"]
  kx : Kx K
theorem fn_false {P : Program} {w : World} {K : PySem.W.Frag} {mg : Str → Option Value} {base : Heap} {x : Str} {st : Stmt} {ps : List Str} {g : GT} (F : Df K mg x st ps) (h : ∀ ts K0 Z0, g ts K0 Z0 → False) (k : Nat) : Fn1 P w K mg base k x ps (spP K g.pf) := by
  obtain ⟨fd, fD, bd⟩ := F.fd
  have no : ∀ vs H Q E, spP K g.pf vs H Q E → False := fun vs H Q E q => by
    obtain ⟨B, Wd, os, K0, Z0, _, h2, _⟩ := q
    exact h _ _ _ h2
  exact ⟨F.mgx, fD.kp, fd, bd, ⟨fun vs H Q E q => (no _ _ _ _ q).elim, fun A outer s H args us vs Q E _ _ _ _ q => (no _ _ _ _ q).elim⟩⟩
section
variable {P : Program} {w : World} {K : PySem.W.Frag} {mg : Str → Option Value} {base : Heap}
theorem F_parts_of (M : Md P w K mg base) (D : Ds K mg) : Fn1 P w K mg base 1 "parts_of" ["term"] (spP K (g_parts_of).pf) :=
  fn_PT (k := 0) D.d_parts_of sc_parts_of (fun ts K0 Z0 h => by first | (obtain ⟨rfl, _⟩ := h; rfl) | (obtain ⟨_, rfl, _⟩ := h; rfl) | (obtain ⟨_, _, rfl, _⟩ := h; rfl) | (obtain ⟨_, _, _, rfl, _⟩ := h; rfl) | (obtain ⟨_, _, _, _, rfl, _⟩ := h; rfl) | (obtain ⟨_, _, _, _, _, rfl, _⟩ := h; rfl) | (obtain ⟨_, _, _, _, _, _, rfl, _⟩ := h; rfl) | (obtain ⟨_, _, _, _, _, _, _, rfl, _⟩ := h; rfl) | (obtain ⟨_, _, _, _, _, _, _, _, rfl, _⟩ := h; rfl) | (obtain ⟨_, _, _, _, _, _, _, _, _, rfl, _⟩ := h; rfl) | (obtain ⟨_, _, _, _, _, _, _, _, _, _, rfl, _⟩ := h; rfl) | (obtain ⟨_, _, _, _, _, _, _, _, _, _, _, rfl, _⟩ := h; rfl) | (obtain ⟨_, _, _, _, _, _, _, _, _, _, _, _, rfl, _⟩ := h; rfl) | (obtain ⟨_, _, _, _, _, _, _, _, _, _, _, _, _, rfl, _⟩ := h; rfl) | (obtain ⟨_, _, _, _, _, _, _, _, _, _, _, _, _, _, rfl, _⟩ := h; rfl) | (obtain ⟨_, _, _, _, _, _, _, _, _, _, _, _, _, _, _, rfl, _⟩ := h; rfl) | (obtain ⟨_, _, _, _, _, _, _, _, _, _, _, _, _, _, _, _, rfl, _⟩ := h; rfl) | (obtain ⟨_, _, _, _, _, _, _, _, _, _, _, _, _, _, _, _, _, rfl, _⟩ := h; rfl) | (obtain ⟨_, _, _, _, _, _, _, _, _, _, _, _, _, _, _, _, _, _, rfl, _⟩ := h; rfl) | (obtain ⟨_, _, _, _, _, _, _, _, _, _, _, _, _, _, _, _, _, _, _, rfl, _⟩ := h; rfl) | (obtain ⟨_, _, _, _, _, _, _, _, _, _, _, _, _, _, _, _, _, _, _, _, rfl, _⟩ := h; rfl) | (obtain ⟨_, _, _, _, _, _, _, _, _, _, _, _, _, _, _, _, _, _, _, _, _, rfl, _⟩ := h; rfl) | (obtain ⟨_, _, _, _, _, _, _, _, _, _, _, _, _, _, _, _, _, _, _, _, _, _, rfl, _⟩ := h; rfl) | (obtain ⟨_, _, _, _, _, _, _, _, _, _, _, _, _, _, _, _, _, _, _, _, _, _, _, rfl, _⟩ := h; rfl) | (obtain ⟨_, _, _, _, _, _, _, _, _, _, _, _, _, _, _, _, _, _, _, _, _, _, _, _, rfl, _⟩ := h; rfl) | (obtain ⟨_, _, _, _, _, _, _, _, _, _, _, _, _, _, _, _, _, _, _, _, _, _, _, _, _, rfl, _⟩ := h; rfl)) fun cdv A outer s H E hr tk => ⟨_, t_parts_of M  hr tk, fun ts K0 Z0 h => pl_parts_of  ts K0 Z0 h⟩
theorem F_rebuilt (M : Md P w K mg base) (D : Ds K mg) : Fn1 P w K mg base 1 "rebuilt" ["term", "parts"] (spP K (g_rebuilt).pf) :=
  fn_PT (k := 0) D.d_rebuilt sc_rebuilt (fun ts K0 Z0 h => by first | (obtain ⟨rfl, _⟩ := h; rfl) | (obtain ⟨_, rfl, _⟩ := h; rfl) | (obtain ⟨_, _, rfl, _⟩ := h; rfl) | (obtain ⟨_, _, _, rfl, _⟩ := h; rfl) | (obtain ⟨_, _, _, _, rfl, _⟩ := h; rfl) | (obtain ⟨_, _, _, _, _, rfl, _⟩ := h; rfl) | (obtain ⟨_, _, _, _, _, _, rfl, _⟩ := h; rfl) | (obtain ⟨_, _, _, _, _, _, _, rfl, _⟩ := h; rfl) | (obtain ⟨_, _, _, _, _, _, _, _, rfl, _⟩ := h; rfl) | (obtain ⟨_, _, _, _, _, _, _, _, _, rfl, _⟩ := h; rfl) | (obtain ⟨_, _, _, _, _, _, _, _, _, _, rfl, _⟩ := h; rfl) | (obtain ⟨_, _, _, _, _, _, _, _, _, _, _, rfl, _⟩ := h; rfl) | (obtain ⟨_, _, _, _, _, _, _, _, _, _, _, _, rfl, _⟩ := h; rfl) | (obtain ⟨_, _, _, _, _, _, _, _, _, _, _, _, _, rfl, _⟩ := h; rfl) | (obtain ⟨_, _, _, _, _, _, _, _, _, _, _, _, _, _, rfl, _⟩ := h; rfl) | (obtain ⟨_, _, _, _, _, _, _, _, _, _, _, _, _, _, _, rfl, _⟩ := h; rfl) | (obtain ⟨_, _, _, _, _, _, _, _, _, _, _, _, _, _, _, _, rfl, _⟩ := h; rfl) | (obtain ⟨_, _, _, _, _, _, _, _, _, _, _, _, _, _, _, _, _, rfl, _⟩ := h; rfl) | (obtain ⟨_, _, _, _, _, _, _, _, _, _, _, _, _, _, _, _, _, _, rfl, _⟩ := h; rfl) | (obtain ⟨_, _, _, _, _, _, _, _, _, _, _, _, _, _, _, _, _, _, _, rfl, _⟩ := h; rfl) | (obtain ⟨_, _, _, _, _, _, _, _, _, _, _, _, _, _, _, _, _, _, _, _, rfl, _⟩ := h; rfl) | (obtain ⟨_, _, _, _, _, _, _, _, _, _, _, _, _, _, _, _, _, _, _, _, _, rfl, _⟩ := h; rfl) | (obtain ⟨_, _, _, _, _, _, _, _, _, _, _, _, _, _, _, _, _, _, _, _, _, _, rfl, _⟩ := h; rfl) | (obtain ⟨_, _, _, _, _, _, _, _, _, _, _, _, _, _, _, _, _, _, _, _, _, _, _, rfl, _⟩ := h; rfl) | (obtain ⟨_, _, _, _, _, _, _, _, _, _, _, _, _, _, _, _, _, _, _, _, _, _, _, _, rfl, _⟩ := h; rfl) | (obtain ⟨_, _, _, _, _, _, _, _, _, _, _, _, _, _, _, _, _, _, _, _, _, _, _, _, _, rfl, _⟩ := h; rfl)) fun cdv A outer s H E hr tk => ⟨_, t_rebuilt M  hr tk, fun ts K0 Z0 h => pl_rebuilt  ts K0 Z0 h⟩
theorem F_walk (M : Md P w K mg base) (D : Ds K mg) : Fn1 P w K mg base 2 "walk" ["term"] (spP K (g_walk).pf) :=
  fn_PT (k := 1) D.d_walk sc_walk (fun ts K0 Z0 h => by first | (obtain ⟨rfl, _⟩ := h; rfl) | (obtain ⟨_, rfl, _⟩ := h; rfl) | (obtain ⟨_, _, rfl, _⟩ := h; rfl) | (obtain ⟨_, _, _, rfl, _⟩ := h; rfl) | (obtain ⟨_, _, _, _, rfl, _⟩ := h; rfl) | (obtain ⟨_, _, _, _, _, rfl, _⟩ := h; rfl) | (obtain ⟨_, _, _, _, _, _, rfl, _⟩ := h; rfl) | (obtain ⟨_, _, _, _, _, _, _, rfl, _⟩ := h; rfl) | (obtain ⟨_, _, _, _, _, _, _, _, rfl, _⟩ := h; rfl) | (obtain ⟨_, _, _, _, _, _, _, _, _, rfl, _⟩ := h; rfl) | (obtain ⟨_, _, _, _, _, _, _, _, _, _, rfl, _⟩ := h; rfl) | (obtain ⟨_, _, _, _, _, _, _, _, _, _, _, rfl, _⟩ := h; rfl) | (obtain ⟨_, _, _, _, _, _, _, _, _, _, _, _, rfl, _⟩ := h; rfl) | (obtain ⟨_, _, _, _, _, _, _, _, _, _, _, _, _, rfl, _⟩ := h; rfl) | (obtain ⟨_, _, _, _, _, _, _, _, _, _, _, _, _, _, rfl, _⟩ := h; rfl) | (obtain ⟨_, _, _, _, _, _, _, _, _, _, _, _, _, _, _, rfl, _⟩ := h; rfl) | (obtain ⟨_, _, _, _, _, _, _, _, _, _, _, _, _, _, _, _, rfl, _⟩ := h; rfl) | (obtain ⟨_, _, _, _, _, _, _, _, _, _, _, _, _, _, _, _, _, rfl, _⟩ := h; rfl) | (obtain ⟨_, _, _, _, _, _, _, _, _, _, _, _, _, _, _, _, _, _, rfl, _⟩ := h; rfl) | (obtain ⟨_, _, _, _, _, _, _, _, _, _, _, _, _, _, _, _, _, _, _, rfl, _⟩ := h; rfl) | (obtain ⟨_, _, _, _, _, _, _, _, _, _, _, _, _, _, _, _, _, _, _, _, rfl, _⟩ := h; rfl) | (obtain ⟨_, _, _, _, _, _, _, _, _, _, _, _, _, _, _, _, _, _, _, _, _, rfl, _⟩ := h; rfl) | (obtain ⟨_, _, _, _, _, _, _, _, _, _, _, _, _, _, _, _, _, _, _, _, _, _, rfl, _⟩ := h; rfl) | (obtain ⟨_, _, _, _, _, _, _, _, _, _, _, _, _, _, _, _, _, _, _, _, _, _, _, rfl, _⟩ := h; rfl) | (obtain ⟨_, _, _, _, _, _, _, _, _, _, _, _, _, _, _, _, _, _, _, _, _, _, _, _, rfl, _⟩ := h; rfl) | (obtain ⟨_, _, _, _, _, _, _, _, _, _, _, _, _, _, _, _, _, _, _, _, _, _, _, _, _, rfl, _⟩ := h; rfl)) fun cdv A outer s H E hr tk => ⟨_, t_walk M (F_parts_of M D) (by decide) hr tk, fun ts K0 Z0 h => pl_walk  ts K0 Z0 h⟩
theorem F_binder_in (M : Md P w K mg base) (D : Ds K mg) : Fn1 P w K mg base 1 "binder_in" ["scope", "name"] (spP K (g_binder_in).pf) :=
  fn_PT (k := 0) D.d_binder_in sc_binder_in (fun ts K0 Z0 h => by first | (obtain ⟨rfl, _⟩ := h; rfl) | (obtain ⟨_, rfl, _⟩ := h; rfl) | (obtain ⟨_, _, rfl, _⟩ := h; rfl) | (obtain ⟨_, _, _, rfl, _⟩ := h; rfl) | (obtain ⟨_, _, _, _, rfl, _⟩ := h; rfl) | (obtain ⟨_, _, _, _, _, rfl, _⟩ := h; rfl) | (obtain ⟨_, _, _, _, _, _, rfl, _⟩ := h; rfl) | (obtain ⟨_, _, _, _, _, _, _, rfl, _⟩ := h; rfl) | (obtain ⟨_, _, _, _, _, _, _, _, rfl, _⟩ := h; rfl) | (obtain ⟨_, _, _, _, _, _, _, _, _, rfl, _⟩ := h; rfl) | (obtain ⟨_, _, _, _, _, _, _, _, _, _, rfl, _⟩ := h; rfl) | (obtain ⟨_, _, _, _, _, _, _, _, _, _, _, rfl, _⟩ := h; rfl) | (obtain ⟨_, _, _, _, _, _, _, _, _, _, _, _, rfl, _⟩ := h; rfl) | (obtain ⟨_, _, _, _, _, _, _, _, _, _, _, _, _, rfl, _⟩ := h; rfl) | (obtain ⟨_, _, _, _, _, _, _, _, _, _, _, _, _, _, rfl, _⟩ := h; rfl) | (obtain ⟨_, _, _, _, _, _, _, _, _, _, _, _, _, _, _, rfl, _⟩ := h; rfl) | (obtain ⟨_, _, _, _, _, _, _, _, _, _, _, _, _, _, _, _, rfl, _⟩ := h; rfl) | (obtain ⟨_, _, _, _, _, _, _, _, _, _, _, _, _, _, _, _, _, rfl, _⟩ := h; rfl) | (obtain ⟨_, _, _, _, _, _, _, _, _, _, _, _, _, _, _, _, _, _, rfl, _⟩ := h; rfl) | (obtain ⟨_, _, _, _, _, _, _, _, _, _, _, _, _, _, _, _, _, _, _, rfl, _⟩ := h; rfl) | (obtain ⟨_, _, _, _, _, _, _, _, _, _, _, _, _, _, _, _, _, _, _, _, rfl, _⟩ := h; rfl) | (obtain ⟨_, _, _, _, _, _, _, _, _, _, _, _, _, _, _, _, _, _, _, _, _, rfl, _⟩ := h; rfl) | (obtain ⟨_, _, _, _, _, _, _, _, _, _, _, _, _, _, _, _, _, _, _, _, _, _, rfl, _⟩ := h; rfl) | (obtain ⟨_, _, _, _, _, _, _, _, _, _, _, _, _, _, _, _, _, _, _, _, _, _, _, rfl, _⟩ := h; rfl) | (obtain ⟨_, _, _, _, _, _, _, _, _, _, _, _, _, _, _, _, _, _, _, _, _, _, _, _, rfl, _⟩ := h; rfl) | (obtain ⟨_, _, _, _, _, _, _, _, _, _, _, _, _, _, _, _, _, _, _, _, _, _, _, _, _, rfl, _⟩ := h; rfl)) fun cdv A outer s H E hr tk => ⟨_, t_binder_in M  hr tk, fun ts K0 Z0 h => pl_binder_in  ts K0 Z0 h⟩
theorem F_is_free (M : Md P w K mg base) (D : Ds K mg) : Fn1 P w K mg base 2 "is_free" ["row"] (spP K (g_is_free).pf) :=
  fn_PT (k := 1) D.d_is_free sc_is_free (fun ts K0 Z0 h => by first | (obtain ⟨rfl, _⟩ := h; rfl) | (obtain ⟨_, rfl, _⟩ := h; rfl) | (obtain ⟨_, _, rfl, _⟩ := h; rfl) | (obtain ⟨_, _, _, rfl, _⟩ := h; rfl) | (obtain ⟨_, _, _, _, rfl, _⟩ := h; rfl) | (obtain ⟨_, _, _, _, _, rfl, _⟩ := h; rfl) | (obtain ⟨_, _, _, _, _, _, rfl, _⟩ := h; rfl) | (obtain ⟨_, _, _, _, _, _, _, rfl, _⟩ := h; rfl) | (obtain ⟨_, _, _, _, _, _, _, _, rfl, _⟩ := h; rfl) | (obtain ⟨_, _, _, _, _, _, _, _, _, rfl, _⟩ := h; rfl) | (obtain ⟨_, _, _, _, _, _, _, _, _, _, rfl, _⟩ := h; rfl) | (obtain ⟨_, _, _, _, _, _, _, _, _, _, _, rfl, _⟩ := h; rfl) | (obtain ⟨_, _, _, _, _, _, _, _, _, _, _, _, rfl, _⟩ := h; rfl) | (obtain ⟨_, _, _, _, _, _, _, _, _, _, _, _, _, rfl, _⟩ := h; rfl) | (obtain ⟨_, _, _, _, _, _, _, _, _, _, _, _, _, _, rfl, _⟩ := h; rfl) | (obtain ⟨_, _, _, _, _, _, _, _, _, _, _, _, _, _, _, rfl, _⟩ := h; rfl) | (obtain ⟨_, _, _, _, _, _, _, _, _, _, _, _, _, _, _, _, rfl, _⟩ := h; rfl) | (obtain ⟨_, _, _, _, _, _, _, _, _, _, _, _, _, _, _, _, _, rfl, _⟩ := h; rfl) | (obtain ⟨_, _, _, _, _, _, _, _, _, _, _, _, _, _, _, _, _, _, rfl, _⟩ := h; rfl) | (obtain ⟨_, _, _, _, _, _, _, _, _, _, _, _, _, _, _, _, _, _, _, rfl, _⟩ := h; rfl) | (obtain ⟨_, _, _, _, _, _, _, _, _, _, _, _, _, _, _, _, _, _, _, _, rfl, _⟩ := h; rfl) | (obtain ⟨_, _, _, _, _, _, _, _, _, _, _, _, _, _, _, _, _, _, _, _, _, rfl, _⟩ := h; rfl) | (obtain ⟨_, _, _, _, _, _, _, _, _, _, _, _, _, _, _, _, _, _, _, _, _, _, rfl, _⟩ := h; rfl) | (obtain ⟨_, _, _, _, _, _, _, _, _, _, _, _, _, _, _, _, _, _, _, _, _, _, _, rfl, _⟩ := h; rfl) | (obtain ⟨_, _, _, _, _, _, _, _, _, _, _, _, _, _, _, _, _, _, _, _, _, _, _, _, rfl, _⟩ := h; rfl) | (obtain ⟨_, _, _, _, _, _, _, _, _, _, _, _, _, _, _, _, _, _, _, _, _, _, _, _, _, rfl, _⟩ := h; rfl)) fun cdv A outer s H E hr tk => ⟨_, t_is_free M (F_binder_in M D) (by decide) hr tk, fun ts K0 Z0 h => pl_is_free  ts K0 Z0 h⟩
theorem F_first_free (M : Md P w K mg base) (D : Ds K mg) : Fn1 P w K mg base 3 "first_free" ["term"] (spP K (g_first_free).pf) :=
  fn_PT (k := 2) D.d_first_free sc_first_free (fun ts K0 Z0 h => by first | (obtain ⟨rfl, _⟩ := h; rfl) | (obtain ⟨_, rfl, _⟩ := h; rfl) | (obtain ⟨_, _, rfl, _⟩ := h; rfl) | (obtain ⟨_, _, _, rfl, _⟩ := h; rfl) | (obtain ⟨_, _, _, _, rfl, _⟩ := h; rfl) | (obtain ⟨_, _, _, _, _, rfl, _⟩ := h; rfl) | (obtain ⟨_, _, _, _, _, _, rfl, _⟩ := h; rfl) | (obtain ⟨_, _, _, _, _, _, _, rfl, _⟩ := h; rfl) | (obtain ⟨_, _, _, _, _, _, _, _, rfl, _⟩ := h; rfl) | (obtain ⟨_, _, _, _, _, _, _, _, _, rfl, _⟩ := h; rfl) | (obtain ⟨_, _, _, _, _, _, _, _, _, _, rfl, _⟩ := h; rfl) | (obtain ⟨_, _, _, _, _, _, _, _, _, _, _, rfl, _⟩ := h; rfl) | (obtain ⟨_, _, _, _, _, _, _, _, _, _, _, _, rfl, _⟩ := h; rfl) | (obtain ⟨_, _, _, _, _, _, _, _, _, _, _, _, _, rfl, _⟩ := h; rfl) | (obtain ⟨_, _, _, _, _, _, _, _, _, _, _, _, _, _, rfl, _⟩ := h; rfl) | (obtain ⟨_, _, _, _, _, _, _, _, _, _, _, _, _, _, _, rfl, _⟩ := h; rfl) | (obtain ⟨_, _, _, _, _, _, _, _, _, _, _, _, _, _, _, _, rfl, _⟩ := h; rfl) | (obtain ⟨_, _, _, _, _, _, _, _, _, _, _, _, _, _, _, _, _, rfl, _⟩ := h; rfl) | (obtain ⟨_, _, _, _, _, _, _, _, _, _, _, _, _, _, _, _, _, _, rfl, _⟩ := h; rfl) | (obtain ⟨_, _, _, _, _, _, _, _, _, _, _, _, _, _, _, _, _, _, _, rfl, _⟩ := h; rfl) | (obtain ⟨_, _, _, _, _, _, _, _, _, _, _, _, _, _, _, _, _, _, _, _, rfl, _⟩ := h; rfl) | (obtain ⟨_, _, _, _, _, _, _, _, _, _, _, _, _, _, _, _, _, _, _, _, _, rfl, _⟩ := h; rfl) | (obtain ⟨_, _, _, _, _, _, _, _, _, _, _, _, _, _, _, _, _, _, _, _, _, _, rfl, _⟩ := h; rfl) | (obtain ⟨_, _, _, _, _, _, _, _, _, _, _, _, _, _, _, _, _, _, _, _, _, _, _, rfl, _⟩ := h; rfl) | (obtain ⟨_, _, _, _, _, _, _, _, _, _, _, _, _, _, _, _, _, _, _, _, _, _, _, _, rfl, _⟩ := h; rfl) | (obtain ⟨_, _, _, _, _, _, _, _, _, _, _, _, _, _, _, _, _, _, _, _, _, _, _, _, _, rfl, _⟩ := h; rfl)) fun cdv A outer s H E hr tk => ⟨_, t_first_free M (F_walk M D) (by decide) (F_is_free M D) (by decide) hr tk, fun ts K0 Z0 h => pl_first_free  ts K0 Z0 h⟩
theorem F_measure (M : Md P w K mg base) (D : Ds K mg) : Fn1 P w K mg base 1 "measure" ["rows"] (spP K (g_measure).pf) :=
  fn_PT (k := 0) D.d_measure sc_measure (fun ts K0 Z0 h => by first | (obtain ⟨rfl, _⟩ := h; rfl) | (obtain ⟨_, rfl, _⟩ := h; rfl) | (obtain ⟨_, _, rfl, _⟩ := h; rfl) | (obtain ⟨_, _, _, rfl, _⟩ := h; rfl) | (obtain ⟨_, _, _, _, rfl, _⟩ := h; rfl) | (obtain ⟨_, _, _, _, _, rfl, _⟩ := h; rfl) | (obtain ⟨_, _, _, _, _, _, rfl, _⟩ := h; rfl) | (obtain ⟨_, _, _, _, _, _, _, rfl, _⟩ := h; rfl) | (obtain ⟨_, _, _, _, _, _, _, _, rfl, _⟩ := h; rfl) | (obtain ⟨_, _, _, _, _, _, _, _, _, rfl, _⟩ := h; rfl) | (obtain ⟨_, _, _, _, _, _, _, _, _, _, rfl, _⟩ := h; rfl) | (obtain ⟨_, _, _, _, _, _, _, _, _, _, _, rfl, _⟩ := h; rfl) | (obtain ⟨_, _, _, _, _, _, _, _, _, _, _, _, rfl, _⟩ := h; rfl) | (obtain ⟨_, _, _, _, _, _, _, _, _, _, _, _, _, rfl, _⟩ := h; rfl) | (obtain ⟨_, _, _, _, _, _, _, _, _, _, _, _, _, _, rfl, _⟩ := h; rfl) | (obtain ⟨_, _, _, _, _, _, _, _, _, _, _, _, _, _, _, rfl, _⟩ := h; rfl) | (obtain ⟨_, _, _, _, _, _, _, _, _, _, _, _, _, _, _, _, rfl, _⟩ := h; rfl) | (obtain ⟨_, _, _, _, _, _, _, _, _, _, _, _, _, _, _, _, _, rfl, _⟩ := h; rfl) | (obtain ⟨_, _, _, _, _, _, _, _, _, _, _, _, _, _, _, _, _, _, rfl, _⟩ := h; rfl) | (obtain ⟨_, _, _, _, _, _, _, _, _, _, _, _, _, _, _, _, _, _, _, rfl, _⟩ := h; rfl) | (obtain ⟨_, _, _, _, _, _, _, _, _, _, _, _, _, _, _, _, _, _, _, _, rfl, _⟩ := h; rfl) | (obtain ⟨_, _, _, _, _, _, _, _, _, _, _, _, _, _, _, _, _, _, _, _, _, rfl, _⟩ := h; rfl) | (obtain ⟨_, _, _, _, _, _, _, _, _, _, _, _, _, _, _, _, _, _, _, _, _, _, rfl, _⟩ := h; rfl) | (obtain ⟨_, _, _, _, _, _, _, _, _, _, _, _, _, _, _, _, _, _, _, _, _, _, _, rfl, _⟩ := h; rfl) | (obtain ⟨_, _, _, _, _, _, _, _, _, _, _, _, _, _, _, _, _, _, _, _, _, _, _, _, rfl, _⟩ := h; rfl) | (obtain ⟨_, _, _, _, _, _, _, _, _, _, _, _, _, _, _, _, _, _, _, _, _, _, _, _, _, rfl, _⟩ := h; rfl)) fun cdv A outer s H E hr tk => ⟨_, t_measure M  hr tk, fun ts K0 Z0 h => pl_measure  ts K0 Z0 h⟩
theorem F_swap_measure (M : Md P w K mg base) (D : Ds K mg) : Fn1 P w K mg base 3 "swap_measure" ["term", "name", "closed"] (spP K (g_swap_measure).pf) :=
  fn_PT (k := 2) D.d_swap_measure sc_swap_measure (fun ts K0 Z0 h => by first | (obtain ⟨rfl, _⟩ := h; rfl) | (obtain ⟨_, rfl, _⟩ := h; rfl) | (obtain ⟨_, _, rfl, _⟩ := h; rfl) | (obtain ⟨_, _, _, rfl, _⟩ := h; rfl) | (obtain ⟨_, _, _, _, rfl, _⟩ := h; rfl) | (obtain ⟨_, _, _, _, _, rfl, _⟩ := h; rfl) | (obtain ⟨_, _, _, _, _, _, rfl, _⟩ := h; rfl) | (obtain ⟨_, _, _, _, _, _, _, rfl, _⟩ := h; rfl) | (obtain ⟨_, _, _, _, _, _, _, _, rfl, _⟩ := h; rfl) | (obtain ⟨_, _, _, _, _, _, _, _, _, rfl, _⟩ := h; rfl) | (obtain ⟨_, _, _, _, _, _, _, _, _, _, rfl, _⟩ := h; rfl) | (obtain ⟨_, _, _, _, _, _, _, _, _, _, _, rfl, _⟩ := h; rfl) | (obtain ⟨_, _, _, _, _, _, _, _, _, _, _, _, rfl, _⟩ := h; rfl) | (obtain ⟨_, _, _, _, _, _, _, _, _, _, _, _, _, rfl, _⟩ := h; rfl) | (obtain ⟨_, _, _, _, _, _, _, _, _, _, _, _, _, _, rfl, _⟩ := h; rfl) | (obtain ⟨_, _, _, _, _, _, _, _, _, _, _, _, _, _, _, rfl, _⟩ := h; rfl) | (obtain ⟨_, _, _, _, _, _, _, _, _, _, _, _, _, _, _, _, rfl, _⟩ := h; rfl) | (obtain ⟨_, _, _, _, _, _, _, _, _, _, _, _, _, _, _, _, _, rfl, _⟩ := h; rfl) | (obtain ⟨_, _, _, _, _, _, _, _, _, _, _, _, _, _, _, _, _, _, rfl, _⟩ := h; rfl) | (obtain ⟨_, _, _, _, _, _, _, _, _, _, _, _, _, _, _, _, _, _, _, rfl, _⟩ := h; rfl) | (obtain ⟨_, _, _, _, _, _, _, _, _, _, _, _, _, _, _, _, _, _, _, _, rfl, _⟩ := h; rfl) | (obtain ⟨_, _, _, _, _, _, _, _, _, _, _, _, _, _, _, _, _, _, _, _, _, rfl, _⟩ := h; rfl) | (obtain ⟨_, _, _, _, _, _, _, _, _, _, _, _, _, _, _, _, _, _, _, _, _, _, rfl, _⟩ := h; rfl) | (obtain ⟨_, _, _, _, _, _, _, _, _, _, _, _, _, _, _, _, _, _, _, _, _, _, _, rfl, _⟩ := h; rfl) | (obtain ⟨_, _, _, _, _, _, _, _, _, _, _, _, _, _, _, _, _, _, _, _, _, _, _, _, rfl, _⟩ := h; rfl) | (obtain ⟨_, _, _, _, _, _, _, _, _, _, _, _, _, _, _, _, _, _, _, _, _, _, _, _, _, rfl, _⟩ := h; rfl)) fun cdv A outer s H E hr tk => ⟨_, t_swap_measure M (F_measure M D) (by decide) (F_walk M D) (by decide) (F_is_free M D) (by decide) hr tk, fun ts K0 Z0 h => pl_swap_measure  ts K0 Z0 h⟩
theorem F_swapped (M : Md P w K mg base) (D : Ds K mg) : ∀ d : Nat, Fn1 P w K mg base (2 + d) "swapped" ["term", "name", "closed"] (spP K (g_swapped d).pf)
  | 0 => fn_false D.d_swapped swapped_0 _
  | d + 1 => fn_PT (k := 2 + d) D.d_swapped sc_swapped (fun ts K0 Z0 h => by first | (obtain ⟨rfl, _⟩ := h; rfl) | (obtain ⟨_, rfl, _⟩ := h; rfl) | (obtain ⟨_, _, rfl, _⟩ := h; rfl) | (obtain ⟨_, _, _, rfl, _⟩ := h; rfl) | (obtain ⟨_, _, _, _, rfl, _⟩ := h; rfl) | (obtain ⟨_, _, _, _, _, rfl, _⟩ := h; rfl) | (obtain ⟨_, _, _, _, _, _, rfl, _⟩ := h; rfl) | (obtain ⟨_, _, _, _, _, _, _, rfl, _⟩ := h; rfl) | (obtain ⟨_, _, _, _, _, _, _, _, rfl, _⟩ := h; rfl) | (obtain ⟨_, _, _, _, _, _, _, _, _, rfl, _⟩ := h; rfl) | (obtain ⟨_, _, _, _, _, _, _, _, _, _, rfl, _⟩ := h; rfl) | (obtain ⟨_, _, _, _, _, _, _, _, _, _, _, rfl, _⟩ := h; rfl) | (obtain ⟨_, _, _, _, _, _, _, _, _, _, _, _, rfl, _⟩ := h; rfl) | (obtain ⟨_, _, _, _, _, _, _, _, _, _, _, _, _, rfl, _⟩ := h; rfl) | (obtain ⟨_, _, _, _, _, _, _, _, _, _, _, _, _, _, rfl, _⟩ := h; rfl) | (obtain ⟨_, _, _, _, _, _, _, _, _, _, _, _, _, _, _, rfl, _⟩ := h; rfl) | (obtain ⟨_, _, _, _, _, _, _, _, _, _, _, _, _, _, _, _, rfl, _⟩ := h; rfl) | (obtain ⟨_, _, _, _, _, _, _, _, _, _, _, _, _, _, _, _, _, rfl, _⟩ := h; rfl) | (obtain ⟨_, _, _, _, _, _, _, _, _, _, _, _, _, _, _, _, _, _, rfl, _⟩ := h; rfl) | (obtain ⟨_, _, _, _, _, _, _, _, _, _, _, _, _, _, _, _, _, _, _, rfl, _⟩ := h; rfl) | (obtain ⟨_, _, _, _, _, _, _, _, _, _, _, _, _, _, _, _, _, _, _, _, rfl, _⟩ := h; rfl) | (obtain ⟨_, _, _, _, _, _, _, _, _, _, _, _, _, _, _, _, _, _, _, _, _, rfl, _⟩ := h; rfl) | (obtain ⟨_, _, _, _, _, _, _, _, _, _, _, _, _, _, _, _, _, _, _, _, _, _, rfl, _⟩ := h; rfl) | (obtain ⟨_, _, _, _, _, _, _, _, _, _, _, _, _, _, _, _, _, _, _, _, _, _, _, rfl, _⟩ := h; rfl) | (obtain ⟨_, _, _, _, _, _, _, _, _, _, _, _, _, _, _, _, _, _, _, _, _, _, _, _, rfl, _⟩ := h; rfl) | (obtain ⟨_, _, _, _, _, _, _, _, _, _, _, _, _, _, _, _, _, _, _, _, _, _, _, _, _, rfl, _⟩ := h; rfl)) fun cdv A outer s H E hr tk => ⟨_, t_swapped M (F_rebuilt M D) (by omega) (F_parts_of M D) (by omega) (F_swapped M D d) (Nat.le_refl _) hr tk, fun ts K0 Z0 h => pl_swapped d ts K0 Z0 h⟩
theorem F_refuse_great (M : Md P w K mg base) (D : Ds K mg) : Fn1 P w K mg base 3 "refuse_great" ["deep", "size"] (spP K (g_refuse_great (He.ga K)).pf) :=
  fn_PT (k := 2) D.d_refuse_great sc_refuse_great (fun ts K0 Z0 h => by first | (obtain ⟨rfl, _⟩ := h; rfl) | (obtain ⟨_, rfl, _⟩ := h; rfl) | (obtain ⟨_, _, rfl, _⟩ := h; rfl) | (obtain ⟨_, _, _, rfl, _⟩ := h; rfl) | (obtain ⟨_, _, _, _, rfl, _⟩ := h; rfl) | (obtain ⟨_, _, _, _, _, rfl, _⟩ := h; rfl) | (obtain ⟨_, _, _, _, _, _, rfl, _⟩ := h; rfl) | (obtain ⟨_, _, _, _, _, _, _, rfl, _⟩ := h; rfl) | (obtain ⟨_, _, _, _, _, _, _, _, rfl, _⟩ := h; rfl) | (obtain ⟨_, _, _, _, _, _, _, _, _, rfl, _⟩ := h; rfl) | (obtain ⟨_, _, _, _, _, _, _, _, _, _, rfl, _⟩ := h; rfl) | (obtain ⟨_, _, _, _, _, _, _, _, _, _, _, rfl, _⟩ := h; rfl) | (obtain ⟨_, _, _, _, _, _, _, _, _, _, _, _, rfl, _⟩ := h; rfl) | (obtain ⟨_, _, _, _, _, _, _, _, _, _, _, _, _, rfl, _⟩ := h; rfl) | (obtain ⟨_, _, _, _, _, _, _, _, _, _, _, _, _, _, rfl, _⟩ := h; rfl) | (obtain ⟨_, _, _, _, _, _, _, _, _, _, _, _, _, _, _, rfl, _⟩ := h; rfl) | (obtain ⟨_, _, _, _, _, _, _, _, _, _, _, _, _, _, _, _, rfl, _⟩ := h; rfl) | (obtain ⟨_, _, _, _, _, _, _, _, _, _, _, _, _, _, _, _, _, rfl, _⟩ := h; rfl) | (obtain ⟨_, _, _, _, _, _, _, _, _, _, _, _, _, _, _, _, _, _, rfl, _⟩ := h; rfl) | (obtain ⟨_, _, _, _, _, _, _, _, _, _, _, _, _, _, _, _, _, _, _, rfl, _⟩ := h; rfl) | (obtain ⟨_, _, _, _, _, _, _, _, _, _, _, _, _, _, _, _, _, _, _, _, rfl, _⟩ := h; rfl) | (obtain ⟨_, _, _, _, _, _, _, _, _, _, _, _, _, _, _, _, _, _, _, _, _, rfl, _⟩ := h; rfl) | (obtain ⟨_, _, _, _, _, _, _, _, _, _, _, _, _, _, _, _, _, _, _, _, _, _, rfl, _⟩ := h; rfl) | (obtain ⟨_, _, _, _, _, _, _, _, _, _, _, _, _, _, _, _, _, _, _, _, _, _, _, rfl, _⟩ := h; rfl) | (obtain ⟨_, _, _, _, _, _, _, _, _, _, _, _, _, _, _, _, _, _, _, _, _, _, _, _, rfl, _⟩ := h; rfl) | (obtain ⟨_, _, _, _, _, _, _, _, _, _, _, _, _, _, _, _, _, _, _, _, _, _, _, _, _, rfl, _⟩ := h; rfl)) fun cdv A outer s H E hr tk => ⟨_, t_refuse_great M (by decide)  hr tk, fun ts K0 Z0 h => pl_refuse_great (He.ga K) ts K0 Z0 h⟩
theorem F_child_slots (M : Md P w K mg base) (D : Ds K mg) : Fn1 P w K mg base 1 "child_slots" ["term"] (spP K (g_child_slots).pf) :=
  fn_PT (k := 0) D.d_child_slots sc_child_slots (fun ts K0 Z0 h => by first | (obtain ⟨rfl, _⟩ := h; rfl) | (obtain ⟨_, rfl, _⟩ := h; rfl) | (obtain ⟨_, _, rfl, _⟩ := h; rfl) | (obtain ⟨_, _, _, rfl, _⟩ := h; rfl) | (obtain ⟨_, _, _, _, rfl, _⟩ := h; rfl) | (obtain ⟨_, _, _, _, _, rfl, _⟩ := h; rfl) | (obtain ⟨_, _, _, _, _, _, rfl, _⟩ := h; rfl) | (obtain ⟨_, _, _, _, _, _, _, rfl, _⟩ := h; rfl) | (obtain ⟨_, _, _, _, _, _, _, _, rfl, _⟩ := h; rfl) | (obtain ⟨_, _, _, _, _, _, _, _, _, rfl, _⟩ := h; rfl) | (obtain ⟨_, _, _, _, _, _, _, _, _, _, rfl, _⟩ := h; rfl) | (obtain ⟨_, _, _, _, _, _, _, _, _, _, _, rfl, _⟩ := h; rfl) | (obtain ⟨_, _, _, _, _, _, _, _, _, _, _, _, rfl, _⟩ := h; rfl) | (obtain ⟨_, _, _, _, _, _, _, _, _, _, _, _, _, rfl, _⟩ := h; rfl) | (obtain ⟨_, _, _, _, _, _, _, _, _, _, _, _, _, _, rfl, _⟩ := h; rfl) | (obtain ⟨_, _, _, _, _, _, _, _, _, _, _, _, _, _, _, rfl, _⟩ := h; rfl) | (obtain ⟨_, _, _, _, _, _, _, _, _, _, _, _, _, _, _, _, rfl, _⟩ := h; rfl) | (obtain ⟨_, _, _, _, _, _, _, _, _, _, _, _, _, _, _, _, _, rfl, _⟩ := h; rfl) | (obtain ⟨_, _, _, _, _, _, _, _, _, _, _, _, _, _, _, _, _, _, rfl, _⟩ := h; rfl) | (obtain ⟨_, _, _, _, _, _, _, _, _, _, _, _, _, _, _, _, _, _, _, rfl, _⟩ := h; rfl) | (obtain ⟨_, _, _, _, _, _, _, _, _, _, _, _, _, _, _, _, _, _, _, _, rfl, _⟩ := h; rfl) | (obtain ⟨_, _, _, _, _, _, _, _, _, _, _, _, _, _, _, _, _, _, _, _, _, rfl, _⟩ := h; rfl) | (obtain ⟨_, _, _, _, _, _, _, _, _, _, _, _, _, _, _, _, _, _, _, _, _, _, rfl, _⟩ := h; rfl) | (obtain ⟨_, _, _, _, _, _, _, _, _, _, _, _, _, _, _, _, _, _, _, _, _, _, _, rfl, _⟩ := h; rfl) | (obtain ⟨_, _, _, _, _, _, _, _, _, _, _, _, _, _, _, _, _, _, _, _, _, _, _, _, rfl, _⟩ := h; rfl) | (obtain ⟨_, _, _, _, _, _, _, _, _, _, _, _, _, _, _, _, _, _, _, _, _, _, _, _, _, rfl, _⟩ := h; rfl)) fun cdv A outer s H E hr tk => ⟨_, t_child_slots M  hr tk, fun ts K0 Z0 h => pl_child_slots  ts K0 Z0 h⟩
theorem F_node_rows (M : Md P w K mg base) (D : Ds K mg) : Fn1 P w K mg base 2 "node_rows" ["term"] (spP K (g_node_rows).pf) :=
  fn_PT (k := 1) D.d_node_rows sc_node_rows (fun ts K0 Z0 h => by first | (obtain ⟨rfl, _⟩ := h; rfl) | (obtain ⟨_, rfl, _⟩ := h; rfl) | (obtain ⟨_, _, rfl, _⟩ := h; rfl) | (obtain ⟨_, _, _, rfl, _⟩ := h; rfl) | (obtain ⟨_, _, _, _, rfl, _⟩ := h; rfl) | (obtain ⟨_, _, _, _, _, rfl, _⟩ := h; rfl) | (obtain ⟨_, _, _, _, _, _, rfl, _⟩ := h; rfl) | (obtain ⟨_, _, _, _, _, _, _, rfl, _⟩ := h; rfl) | (obtain ⟨_, _, _, _, _, _, _, _, rfl, _⟩ := h; rfl) | (obtain ⟨_, _, _, _, _, _, _, _, _, rfl, _⟩ := h; rfl) | (obtain ⟨_, _, _, _, _, _, _, _, _, _, rfl, _⟩ := h; rfl) | (obtain ⟨_, _, _, _, _, _, _, _, _, _, _, rfl, _⟩ := h; rfl) | (obtain ⟨_, _, _, _, _, _, _, _, _, _, _, _, rfl, _⟩ := h; rfl) | (obtain ⟨_, _, _, _, _, _, _, _, _, _, _, _, _, rfl, _⟩ := h; rfl) | (obtain ⟨_, _, _, _, _, _, _, _, _, _, _, _, _, _, rfl, _⟩ := h; rfl) | (obtain ⟨_, _, _, _, _, _, _, _, _, _, _, _, _, _, _, rfl, _⟩ := h; rfl) | (obtain ⟨_, _, _, _, _, _, _, _, _, _, _, _, _, _, _, _, rfl, _⟩ := h; rfl) | (obtain ⟨_, _, _, _, _, _, _, _, _, _, _, _, _, _, _, _, _, rfl, _⟩ := h; rfl) | (obtain ⟨_, _, _, _, _, _, _, _, _, _, _, _, _, _, _, _, _, _, rfl, _⟩ := h; rfl) | (obtain ⟨_, _, _, _, _, _, _, _, _, _, _, _, _, _, _, _, _, _, _, rfl, _⟩ := h; rfl) | (obtain ⟨_, _, _, _, _, _, _, _, _, _, _, _, _, _, _, _, _, _, _, _, rfl, _⟩ := h; rfl) | (obtain ⟨_, _, _, _, _, _, _, _, _, _, _, _, _, _, _, _, _, _, _, _, _, rfl, _⟩ := h; rfl) | (obtain ⟨_, _, _, _, _, _, _, _, _, _, _, _, _, _, _, _, _, _, _, _, _, _, rfl, _⟩ := h; rfl) | (obtain ⟨_, _, _, _, _, _, _, _, _, _, _, _, _, _, _, _, _, _, _, _, _, _, _, rfl, _⟩ := h; rfl) | (obtain ⟨_, _, _, _, _, _, _, _, _, _, _, _, _, _, _, _, _, _, _, _, _, _, _, _, rfl, _⟩ := h; rfl) | (obtain ⟨_, _, _, _, _, _, _, _, _, _, _, _, _, _, _, _, _, _, _, _, _, _, _, _, _, rfl, _⟩ := h; rfl)) fun cdv A outer s H E hr tk => ⟨_, t_node_rows M (F_child_slots M D) (by decide) hr tk, fun ts K0 Z0 h => pl_node_rows  ts K0 Z0 h⟩
theorem F_rows_with (M : Md P w K mg base) (D : Ds K mg) : Fn1 P w K mg base 3 "rows_with" ["term", "node"] (spP K (g_rows_with (He.ga K)).pf) :=
  fn_PT (k := 2) D.d_rows_with sc_rows_with (fun ts K0 Z0 h => by first | (obtain ⟨rfl, _⟩ := h; rfl) | (obtain ⟨_, rfl, _⟩ := h; rfl) | (obtain ⟨_, _, rfl, _⟩ := h; rfl) | (obtain ⟨_, _, _, rfl, _⟩ := h; rfl) | (obtain ⟨_, _, _, _, rfl, _⟩ := h; rfl) | (obtain ⟨_, _, _, _, _, rfl, _⟩ := h; rfl) | (obtain ⟨_, _, _, _, _, _, rfl, _⟩ := h; rfl) | (obtain ⟨_, _, _, _, _, _, _, rfl, _⟩ := h; rfl) | (obtain ⟨_, _, _, _, _, _, _, _, rfl, _⟩ := h; rfl) | (obtain ⟨_, _, _, _, _, _, _, _, _, rfl, _⟩ := h; rfl) | (obtain ⟨_, _, _, _, _, _, _, _, _, _, rfl, _⟩ := h; rfl) | (obtain ⟨_, _, _, _, _, _, _, _, _, _, _, rfl, _⟩ := h; rfl) | (obtain ⟨_, _, _, _, _, _, _, _, _, _, _, _, rfl, _⟩ := h; rfl) | (obtain ⟨_, _, _, _, _, _, _, _, _, _, _, _, _, rfl, _⟩ := h; rfl) | (obtain ⟨_, _, _, _, _, _, _, _, _, _, _, _, _, _, rfl, _⟩ := h; rfl) | (obtain ⟨_, _, _, _, _, _, _, _, _, _, _, _, _, _, _, rfl, _⟩ := h; rfl) | (obtain ⟨_, _, _, _, _, _, _, _, _, _, _, _, _, _, _, _, rfl, _⟩ := h; rfl) | (obtain ⟨_, _, _, _, _, _, _, _, _, _, _, _, _, _, _, _, _, rfl, _⟩ := h; rfl) | (obtain ⟨_, _, _, _, _, _, _, _, _, _, _, _, _, _, _, _, _, _, rfl, _⟩ := h; rfl) | (obtain ⟨_, _, _, _, _, _, _, _, _, _, _, _, _, _, _, _, _, _, _, rfl, _⟩ := h; rfl) | (obtain ⟨_, _, _, _, _, _, _, _, _, _, _, _, _, _, _, _, _, _, _, _, rfl, _⟩ := h; rfl) | (obtain ⟨_, _, _, _, _, _, _, _, _, _, _, _, _, _, _, _, _, _, _, _, _, rfl, _⟩ := h; rfl) | (obtain ⟨_, _, _, _, _, _, _, _, _, _, _, _, _, _, _, _, _, _, _, _, _, _, rfl, _⟩ := h; rfl) | (obtain ⟨_, _, _, _, _, _, _, _, _, _, _, _, _, _, _, _, _, _, _, _, _, _, _, rfl, _⟩ := h; rfl) | (obtain ⟨_, _, _, _, _, _, _, _, _, _, _, _, _, _, _, _, _, _, _, _, _, _, _, _, rfl, _⟩ := h; rfl) | (obtain ⟨_, _, _, _, _, _, _, _, _, _, _, _, _, _, _, _, _, _, _, _, _, _, _, _, _, rfl, _⟩ := h; rfl)) fun cdv A outer s H E hr tk => ⟨_, t_rows_with M (by decide) (F_node_rows M D) (by decide) hr tk, fun ts K0 Z0 h => pl_rows_with (He.ga K) ts K0 Z0 h⟩
theorem F_node_count (M : Md P w K mg base) (D : Ds K mg) : Fn1 P w K mg base 3 "node_count" ["term"] (spP K (g_node_count).pf) :=
  fn_PT (k := 2) D.d_node_count sc_node_count (fun ts K0 Z0 h => by first | (obtain ⟨rfl, _⟩ := h; rfl) | (obtain ⟨_, rfl, _⟩ := h; rfl) | (obtain ⟨_, _, rfl, _⟩ := h; rfl) | (obtain ⟨_, _, _, rfl, _⟩ := h; rfl) | (obtain ⟨_, _, _, _, rfl, _⟩ := h; rfl) | (obtain ⟨_, _, _, _, _, rfl, _⟩ := h; rfl) | (obtain ⟨_, _, _, _, _, _, rfl, _⟩ := h; rfl) | (obtain ⟨_, _, _, _, _, _, _, rfl, _⟩ := h; rfl) | (obtain ⟨_, _, _, _, _, _, _, _, rfl, _⟩ := h; rfl) | (obtain ⟨_, _, _, _, _, _, _, _, _, rfl, _⟩ := h; rfl) | (obtain ⟨_, _, _, _, _, _, _, _, _, _, rfl, _⟩ := h; rfl) | (obtain ⟨_, _, _, _, _, _, _, _, _, _, _, rfl, _⟩ := h; rfl) | (obtain ⟨_, _, _, _, _, _, _, _, _, _, _, _, rfl, _⟩ := h; rfl) | (obtain ⟨_, _, _, _, _, _, _, _, _, _, _, _, _, rfl, _⟩ := h; rfl) | (obtain ⟨_, _, _, _, _, _, _, _, _, _, _, _, _, _, rfl, _⟩ := h; rfl) | (obtain ⟨_, _, _, _, _, _, _, _, _, _, _, _, _, _, _, rfl, _⟩ := h; rfl) | (obtain ⟨_, _, _, _, _, _, _, _, _, _, _, _, _, _, _, _, rfl, _⟩ := h; rfl) | (obtain ⟨_, _, _, _, _, _, _, _, _, _, _, _, _, _, _, _, _, rfl, _⟩ := h; rfl) | (obtain ⟨_, _, _, _, _, _, _, _, _, _, _, _, _, _, _, _, _, _, rfl, _⟩ := h; rfl) | (obtain ⟨_, _, _, _, _, _, _, _, _, _, _, _, _, _, _, _, _, _, _, rfl, _⟩ := h; rfl) | (obtain ⟨_, _, _, _, _, _, _, _, _, _, _, _, _, _, _, _, _, _, _, _, rfl, _⟩ := h; rfl) | (obtain ⟨_, _, _, _, _, _, _, _, _, _, _, _, _, _, _, _, _, _, _, _, _, rfl, _⟩ := h; rfl) | (obtain ⟨_, _, _, _, _, _, _, _, _, _, _, _, _, _, _, _, _, _, _, _, _, _, rfl, _⟩ := h; rfl) | (obtain ⟨_, _, _, _, _, _, _, _, _, _, _, _, _, _, _, _, _, _, _, _, _, _, _, rfl, _⟩ := h; rfl) | (obtain ⟨_, _, _, _, _, _, _, _, _, _, _, _, _, _, _, _, _, _, _, _, _, _, _, _, rfl, _⟩ := h; rfl) | (obtain ⟨_, _, _, _, _, _, _, _, _, _, _, _, _, _, _, _, _, _, _, _, _, _, _, _, _, rfl, _⟩ := h; rfl)) fun cdv A outer s H E hr tk => ⟨_, t_node_count M (F_node_rows M D) (by decide) hr tk, fun ts K0 Z0 h => pl_node_count  ts K0 Z0 h⟩
theorem F_term_depth (M : Md P w K mg base) (D : Ds K mg) : Fn1 P w K mg base 3 "term_depth" ["term"] (spP K (g_term_depth).pf) :=
  fn_PT (k := 2) D.d_term_depth sc_term_depth (fun ts K0 Z0 h => by first | (obtain ⟨rfl, _⟩ := h; rfl) | (obtain ⟨_, rfl, _⟩ := h; rfl) | (obtain ⟨_, _, rfl, _⟩ := h; rfl) | (obtain ⟨_, _, _, rfl, _⟩ := h; rfl) | (obtain ⟨_, _, _, _, rfl, _⟩ := h; rfl) | (obtain ⟨_, _, _, _, _, rfl, _⟩ := h; rfl) | (obtain ⟨_, _, _, _, _, _, rfl, _⟩ := h; rfl) | (obtain ⟨_, _, _, _, _, _, _, rfl, _⟩ := h; rfl) | (obtain ⟨_, _, _, _, _, _, _, _, rfl, _⟩ := h; rfl) | (obtain ⟨_, _, _, _, _, _, _, _, _, rfl, _⟩ := h; rfl) | (obtain ⟨_, _, _, _, _, _, _, _, _, _, rfl, _⟩ := h; rfl) | (obtain ⟨_, _, _, _, _, _, _, _, _, _, _, rfl, _⟩ := h; rfl) | (obtain ⟨_, _, _, _, _, _, _, _, _, _, _, _, rfl, _⟩ := h; rfl) | (obtain ⟨_, _, _, _, _, _, _, _, _, _, _, _, _, rfl, _⟩ := h; rfl) | (obtain ⟨_, _, _, _, _, _, _, _, _, _, _, _, _, _, rfl, _⟩ := h; rfl) | (obtain ⟨_, _, _, _, _, _, _, _, _, _, _, _, _, _, _, rfl, _⟩ := h; rfl) | (obtain ⟨_, _, _, _, _, _, _, _, _, _, _, _, _, _, _, _, rfl, _⟩ := h; rfl) | (obtain ⟨_, _, _, _, _, _, _, _, _, _, _, _, _, _, _, _, _, rfl, _⟩ := h; rfl) | (obtain ⟨_, _, _, _, _, _, _, _, _, _, _, _, _, _, _, _, _, _, rfl, _⟩ := h; rfl) | (obtain ⟨_, _, _, _, _, _, _, _, _, _, _, _, _, _, _, _, _, _, _, rfl, _⟩ := h; rfl) | (obtain ⟨_, _, _, _, _, _, _, _, _, _, _, _, _, _, _, _, _, _, _, _, rfl, _⟩ := h; rfl) | (obtain ⟨_, _, _, _, _, _, _, _, _, _, _, _, _, _, _, _, _, _, _, _, _, rfl, _⟩ := h; rfl) | (obtain ⟨_, _, _, _, _, _, _, _, _, _, _, _, _, _, _, _, _, _, _, _, _, _, rfl, _⟩ := h; rfl) | (obtain ⟨_, _, _, _, _, _, _, _, _, _, _, _, _, _, _, _, _, _, _, _, _, _, _, rfl, _⟩ := h; rfl) | (obtain ⟨_, _, _, _, _, _, _, _, _, _, _, _, _, _, _, _, _, _, _, _, _, _, _, _, rfl, _⟩ := h; rfl) | (obtain ⟨_, _, _, _, _, _, _, _, _, _, _, _, _, _, _, _, _, _, _, _, _, _, _, _, _, rfl, _⟩ := h; rfl)) fun cdv A outer s H E hr tk => ⟨_, t_term_depth M (F_node_rows M D) (by decide) hr tk, fun ts K0 Z0 h => pl_term_depth  ts K0 Z0 h⟩
theorem F_replaced_depth (M : Md P w K mg base) (D : Ds K mg) : Fn1 P w K mg base 4 "replaced_depth" ["rows", "node", "size", "other"] (spP K (g_replaced_depth).pf) :=
  fn_PT (k := 3) D.d_replaced_depth sc_replaced_depth (fun ts K0 Z0 h => by first | (obtain ⟨rfl, _⟩ := h; rfl) | (obtain ⟨_, rfl, _⟩ := h; rfl) | (obtain ⟨_, _, rfl, _⟩ := h; rfl) | (obtain ⟨_, _, _, rfl, _⟩ := h; rfl) | (obtain ⟨_, _, _, _, rfl, _⟩ := h; rfl) | (obtain ⟨_, _, _, _, _, rfl, _⟩ := h; rfl) | (obtain ⟨_, _, _, _, _, _, rfl, _⟩ := h; rfl) | (obtain ⟨_, _, _, _, _, _, _, rfl, _⟩ := h; rfl) | (obtain ⟨_, _, _, _, _, _, _, _, rfl, _⟩ := h; rfl) | (obtain ⟨_, _, _, _, _, _, _, _, _, rfl, _⟩ := h; rfl) | (obtain ⟨_, _, _, _, _, _, _, _, _, _, rfl, _⟩ := h; rfl) | (obtain ⟨_, _, _, _, _, _, _, _, _, _, _, rfl, _⟩ := h; rfl) | (obtain ⟨_, _, _, _, _, _, _, _, _, _, _, _, rfl, _⟩ := h; rfl) | (obtain ⟨_, _, _, _, _, _, _, _, _, _, _, _, _, rfl, _⟩ := h; rfl) | (obtain ⟨_, _, _, _, _, _, _, _, _, _, _, _, _, _, rfl, _⟩ := h; rfl) | (obtain ⟨_, _, _, _, _, _, _, _, _, _, _, _, _, _, _, rfl, _⟩ := h; rfl) | (obtain ⟨_, _, _, _, _, _, _, _, _, _, _, _, _, _, _, _, rfl, _⟩ := h; rfl) | (obtain ⟨_, _, _, _, _, _, _, _, _, _, _, _, _, _, _, _, _, rfl, _⟩ := h; rfl) | (obtain ⟨_, _, _, _, _, _, _, _, _, _, _, _, _, _, _, _, _, _, rfl, _⟩ := h; rfl) | (obtain ⟨_, _, _, _, _, _, _, _, _, _, _, _, _, _, _, _, _, _, _, rfl, _⟩ := h; rfl) | (obtain ⟨_, _, _, _, _, _, _, _, _, _, _, _, _, _, _, _, _, _, _, _, rfl, _⟩ := h; rfl) | (obtain ⟨_, _, _, _, _, _, _, _, _, _, _, _, _, _, _, _, _, _, _, _, _, rfl, _⟩ := h; rfl) | (obtain ⟨_, _, _, _, _, _, _, _, _, _, _, _, _, _, _, _, _, _, _, _, _, _, rfl, _⟩ := h; rfl) | (obtain ⟨_, _, _, _, _, _, _, _, _, _, _, _, _, _, _, _, _, _, _, _, _, _, _, rfl, _⟩ := h; rfl) | (obtain ⟨_, _, _, _, _, _, _, _, _, _, _, _, _, _, _, _, _, _, _, _, _, _, _, _, rfl, _⟩ := h; rfl) | (obtain ⟨_, _, _, _, _, _, _, _, _, _, _, _, _, _, _, _, _, _, _, _, _, _, _, _, _, rfl, _⟩ := h; rfl)) fun cdv A outer s H E hr tk => ⟨_, t_replaced_depth M (F_term_depth M D) (by decide) hr tk, fun ts K0 Z0 h => pl_replaced_depth  ts K0 Z0 h⟩
theorem F_with_term (M : Md P w K mg base) (D : Ds K mg) : Fn1 P w K mg base 5 "with_term" ["term", "node", "other"] (spP K (g_with_term (He.ga K)).pf) :=
  fn_PT (k := 4) D.d_with_term sc_with_term (fun ts K0 Z0 h => by first | (obtain ⟨rfl, _⟩ := h; rfl) | (obtain ⟨_, rfl, _⟩ := h; rfl) | (obtain ⟨_, _, rfl, _⟩ := h; rfl) | (obtain ⟨_, _, _, rfl, _⟩ := h; rfl) | (obtain ⟨_, _, _, _, rfl, _⟩ := h; rfl) | (obtain ⟨_, _, _, _, _, rfl, _⟩ := h; rfl) | (obtain ⟨_, _, _, _, _, _, rfl, _⟩ := h; rfl) | (obtain ⟨_, _, _, _, _, _, _, rfl, _⟩ := h; rfl) | (obtain ⟨_, _, _, _, _, _, _, _, rfl, _⟩ := h; rfl) | (obtain ⟨_, _, _, _, _, _, _, _, _, rfl, _⟩ := h; rfl) | (obtain ⟨_, _, _, _, _, _, _, _, _, _, rfl, _⟩ := h; rfl) | (obtain ⟨_, _, _, _, _, _, _, _, _, _, _, rfl, _⟩ := h; rfl) | (obtain ⟨_, _, _, _, _, _, _, _, _, _, _, _, rfl, _⟩ := h; rfl) | (obtain ⟨_, _, _, _, _, _, _, _, _, _, _, _, _, rfl, _⟩ := h; rfl) | (obtain ⟨_, _, _, _, _, _, _, _, _, _, _, _, _, _, rfl, _⟩ := h; rfl) | (obtain ⟨_, _, _, _, _, _, _, _, _, _, _, _, _, _, _, rfl, _⟩ := h; rfl) | (obtain ⟨_, _, _, _, _, _, _, _, _, _, _, _, _, _, _, _, rfl, _⟩ := h; rfl) | (obtain ⟨_, _, _, _, _, _, _, _, _, _, _, _, _, _, _, _, _, rfl, _⟩ := h; rfl) | (obtain ⟨_, _, _, _, _, _, _, _, _, _, _, _, _, _, _, _, _, _, rfl, _⟩ := h; rfl) | (obtain ⟨_, _, _, _, _, _, _, _, _, _, _, _, _, _, _, _, _, _, _, rfl, _⟩ := h; rfl) | (obtain ⟨_, _, _, _, _, _, _, _, _, _, _, _, _, _, _, _, _, _, _, _, rfl, _⟩ := h; rfl) | (obtain ⟨_, _, _, _, _, _, _, _, _, _, _, _, _, _, _, _, _, _, _, _, _, rfl, _⟩ := h; rfl) | (obtain ⟨_, _, _, _, _, _, _, _, _, _, _, _, _, _, _, _, _, _, _, _, _, _, rfl, _⟩ := h; rfl) | (obtain ⟨_, _, _, _, _, _, _, _, _, _, _, _, _, _, _, _, _, _, _, _, _, _, _, rfl, _⟩ := h; rfl) | (obtain ⟨_, _, _, _, _, _, _, _, _, _, _, _, _, _, _, _, _, _, _, _, _, _, _, _, rfl, _⟩ := h; rfl) | (obtain ⟨_, _, _, _, _, _, _, _, _, _, _, _, _, _, _, _, _, _, _, _, _, _, _, _, _, rfl, _⟩ := h; rfl)) fun cdv A outer s H E hr tk => ⟨_, t_with_term M (by decide) (F_rows_with M D) (by decide) (F_node_count M D) (by decide) (F_replaced_depth M D) (by decide) hr tk, fun ts K0 Z0 h => pl_with_term (He.ga K) ts K0 Z0 h⟩
theorem F_is_redex (M : Md P w K mg base) (D : Ds K mg) : Fn1 P w K mg base 4 "is_redex" ["here"] (spP K (g_is_redex).pf) :=
  fn_PT (k := 3) D.d_is_redex sc_is_redex (fun ts K0 Z0 h => by first | (obtain ⟨rfl, _⟩ := h; rfl) | (obtain ⟨_, rfl, _⟩ := h; rfl) | (obtain ⟨_, _, rfl, _⟩ := h; rfl) | (obtain ⟨_, _, _, rfl, _⟩ := h; rfl) | (obtain ⟨_, _, _, _, rfl, _⟩ := h; rfl) | (obtain ⟨_, _, _, _, _, rfl, _⟩ := h; rfl) | (obtain ⟨_, _, _, _, _, _, rfl, _⟩ := h; rfl) | (obtain ⟨_, _, _, _, _, _, _, rfl, _⟩ := h; rfl) | (obtain ⟨_, _, _, _, _, _, _, _, rfl, _⟩ := h; rfl) | (obtain ⟨_, _, _, _, _, _, _, _, _, rfl, _⟩ := h; rfl) | (obtain ⟨_, _, _, _, _, _, _, _, _, _, rfl, _⟩ := h; rfl) | (obtain ⟨_, _, _, _, _, _, _, _, _, _, _, rfl, _⟩ := h; rfl) | (obtain ⟨_, _, _, _, _, _, _, _, _, _, _, _, rfl, _⟩ := h; rfl) | (obtain ⟨_, _, _, _, _, _, _, _, _, _, _, _, _, rfl, _⟩ := h; rfl) | (obtain ⟨_, _, _, _, _, _, _, _, _, _, _, _, _, _, rfl, _⟩ := h; rfl) | (obtain ⟨_, _, _, _, _, _, _, _, _, _, _, _, _, _, _, rfl, _⟩ := h; rfl) | (obtain ⟨_, _, _, _, _, _, _, _, _, _, _, _, _, _, _, _, rfl, _⟩ := h; rfl) | (obtain ⟨_, _, _, _, _, _, _, _, _, _, _, _, _, _, _, _, _, rfl, _⟩ := h; rfl) | (obtain ⟨_, _, _, _, _, _, _, _, _, _, _, _, _, _, _, _, _, _, rfl, _⟩ := h; rfl) | (obtain ⟨_, _, _, _, _, _, _, _, _, _, _, _, _, _, _, _, _, _, _, rfl, _⟩ := h; rfl) | (obtain ⟨_, _, _, _, _, _, _, _, _, _, _, _, _, _, _, _, _, _, _, _, rfl, _⟩ := h; rfl) | (obtain ⟨_, _, _, _, _, _, _, _, _, _, _, _, _, _, _, _, _, _, _, _, _, rfl, _⟩ := h; rfl) | (obtain ⟨_, _, _, _, _, _, _, _, _, _, _, _, _, _, _, _, _, _, _, _, _, _, rfl, _⟩ := h; rfl) | (obtain ⟨_, _, _, _, _, _, _, _, _, _, _, _, _, _, _, _, _, _, _, _, _, _, _, rfl, _⟩ := h; rfl) | (obtain ⟨_, _, _, _, _, _, _, _, _, _, _, _, _, _, _, _, _, _, _, _, _, _, _, _, rfl, _⟩ := h; rfl) | (obtain ⟨_, _, _, _, _, _, _, _, _, _, _, _, _, _, _, _, _, _, _, _, _, _, _, _, _, rfl, _⟩ := h; rfl)) fun cdv A outer s H E hr tk => ⟨_, t_is_redex M (F_first_free M D) (by decide) hr tk, fun ts K0 Z0 h => pl_is_redex  ts K0 Z0 h⟩
theorem F_redexes (M : Md P w K mg base) (D : Ds K mg) : Fn1 P w K mg base 5 "redexes" ["term"] (spP K (g_redexes).pf) :=
  fn_PT (k := 4) D.d_redexes sc_redexes (fun ts K0 Z0 h => by first | (obtain ⟨rfl, _⟩ := h; rfl) | (obtain ⟨_, rfl, _⟩ := h; rfl) | (obtain ⟨_, _, rfl, _⟩ := h; rfl) | (obtain ⟨_, _, _, rfl, _⟩ := h; rfl) | (obtain ⟨_, _, _, _, rfl, _⟩ := h; rfl) | (obtain ⟨_, _, _, _, _, rfl, _⟩ := h; rfl) | (obtain ⟨_, _, _, _, _, _, rfl, _⟩ := h; rfl) | (obtain ⟨_, _, _, _, _, _, _, rfl, _⟩ := h; rfl) | (obtain ⟨_, _, _, _, _, _, _, _, rfl, _⟩ := h; rfl) | (obtain ⟨_, _, _, _, _, _, _, _, _, rfl, _⟩ := h; rfl) | (obtain ⟨_, _, _, _, _, _, _, _, _, _, rfl, _⟩ := h; rfl) | (obtain ⟨_, _, _, _, _, _, _, _, _, _, _, rfl, _⟩ := h; rfl) | (obtain ⟨_, _, _, _, _, _, _, _, _, _, _, _, rfl, _⟩ := h; rfl) | (obtain ⟨_, _, _, _, _, _, _, _, _, _, _, _, _, rfl, _⟩ := h; rfl) | (obtain ⟨_, _, _, _, _, _, _, _, _, _, _, _, _, _, rfl, _⟩ := h; rfl) | (obtain ⟨_, _, _, _, _, _, _, _, _, _, _, _, _, _, _, rfl, _⟩ := h; rfl) | (obtain ⟨_, _, _, _, _, _, _, _, _, _, _, _, _, _, _, _, rfl, _⟩ := h; rfl) | (obtain ⟨_, _, _, _, _, _, _, _, _, _, _, _, _, _, _, _, _, rfl, _⟩ := h; rfl) | (obtain ⟨_, _, _, _, _, _, _, _, _, _, _, _, _, _, _, _, _, _, rfl, _⟩ := h; rfl) | (obtain ⟨_, _, _, _, _, _, _, _, _, _, _, _, _, _, _, _, _, _, _, rfl, _⟩ := h; rfl) | (obtain ⟨_, _, _, _, _, _, _, _, _, _, _, _, _, _, _, _, _, _, _, _, rfl, _⟩ := h; rfl) | (obtain ⟨_, _, _, _, _, _, _, _, _, _, _, _, _, _, _, _, _, _, _, _, _, rfl, _⟩ := h; rfl) | (obtain ⟨_, _, _, _, _, _, _, _, _, _, _, _, _, _, _, _, _, _, _, _, _, _, rfl, _⟩ := h; rfl) | (obtain ⟨_, _, _, _, _, _, _, _, _, _, _, _, _, _, _, _, _, _, _, _, _, _, _, rfl, _⟩ := h; rfl) | (obtain ⟨_, _, _, _, _, _, _, _, _, _, _, _, _, _, _, _, _, _, _, _, _, _, _, _, rfl, _⟩ := h; rfl) | (obtain ⟨_, _, _, _, _, _, _, _, _, _, _, _, _, _, _, _, _, _, _, _, _, _, _, _, _, rfl, _⟩ := h; rfl)) fun cdv A outer s H E hr tk => ⟨_, t_redexes M (F_walk M D) (by decide) (F_is_redex M D) (by decide) hr tk, fun ts K0 Z0 h => pl_redexes  ts K0 Z0 h⟩
theorem F_reduced_root (M : Md P w K mg base) (D : Ds K mg) : Fn1 P w K mg base 153 "reduced_root" ["here"] (spP K (g_reduced_root dd).pf) :=
  fn_PT (k := 152) D.d_reduced_root sc_reduced_root (fun ts K0 Z0 h => by first | (obtain ⟨rfl, _⟩ := h; rfl) | (obtain ⟨_, rfl, _⟩ := h; rfl) | (obtain ⟨_, _, rfl, _⟩ := h; rfl) | (obtain ⟨_, _, _, rfl, _⟩ := h; rfl) | (obtain ⟨_, _, _, _, rfl, _⟩ := h; rfl) | (obtain ⟨_, _, _, _, _, rfl, _⟩ := h; rfl) | (obtain ⟨_, _, _, _, _, _, rfl, _⟩ := h; rfl) | (obtain ⟨_, _, _, _, _, _, _, rfl, _⟩ := h; rfl) | (obtain ⟨_, _, _, _, _, _, _, _, rfl, _⟩ := h; rfl) | (obtain ⟨_, _, _, _, _, _, _, _, _, rfl, _⟩ := h; rfl) | (obtain ⟨_, _, _, _, _, _, _, _, _, _, rfl, _⟩ := h; rfl) | (obtain ⟨_, _, _, _, _, _, _, _, _, _, _, rfl, _⟩ := h; rfl) | (obtain ⟨_, _, _, _, _, _, _, _, _, _, _, _, rfl, _⟩ := h; rfl) | (obtain ⟨_, _, _, _, _, _, _, _, _, _, _, _, _, rfl, _⟩ := h; rfl) | (obtain ⟨_, _, _, _, _, _, _, _, _, _, _, _, _, _, rfl, _⟩ := h; rfl) | (obtain ⟨_, _, _, _, _, _, _, _, _, _, _, _, _, _, _, rfl, _⟩ := h; rfl) | (obtain ⟨_, _, _, _, _, _, _, _, _, _, _, _, _, _, _, _, rfl, _⟩ := h; rfl) | (obtain ⟨_, _, _, _, _, _, _, _, _, _, _, _, _, _, _, _, _, rfl, _⟩ := h; rfl) | (obtain ⟨_, _, _, _, _, _, _, _, _, _, _, _, _, _, _, _, _, _, rfl, _⟩ := h; rfl) | (obtain ⟨_, _, _, _, _, _, _, _, _, _, _, _, _, _, _, _, _, _, _, rfl, _⟩ := h; rfl) | (obtain ⟨_, _, _, _, _, _, _, _, _, _, _, _, _, _, _, _, _, _, _, _, rfl, _⟩ := h; rfl) | (obtain ⟨_, _, _, _, _, _, _, _, _, _, _, _, _, _, _, _, _, _, _, _, _, rfl, _⟩ := h; rfl) | (obtain ⟨_, _, _, _, _, _, _, _, _, _, _, _, _, _, _, _, _, _, _, _, _, _, rfl, _⟩ := h; rfl) | (obtain ⟨_, _, _, _, _, _, _, _, _, _, _, _, _, _, _, _, _, _, _, _, _, _, _, rfl, _⟩ := h; rfl) | (obtain ⟨_, _, _, _, _, _, _, _, _, _, _, _, _, _, _, _, _, _, _, _, _, _, _, _, rfl, _⟩ := h; rfl) | (obtain ⟨_, _, _, _, _, _, _, _, _, _, _, _, _, _, _, _, _, _, _, _, _, _, _, _, _, rfl, _⟩ := h; rfl)) fun cdv A outer s H E hr tk => ⟨_, t_reduced_root M (F_swapped M D dd) (by decide) hr tk, fun ts K0 Z0 h => pl_reduced_root dd ts K0 Z0 h⟩
theorem F_reduced_measure (M : Md P w K mg base) (D : Ds K mg) : Fn1 P w K mg base 154 "reduced_measure" ["here"] (spP K (g_reduced_measure dd).pf) :=
  fn_PT (k := 153) D.d_reduced_measure sc_reduced_measure (fun ts K0 Z0 h => by first | (obtain ⟨rfl, _⟩ := h; rfl) | (obtain ⟨_, rfl, _⟩ := h; rfl) | (obtain ⟨_, _, rfl, _⟩ := h; rfl) | (obtain ⟨_, _, _, rfl, _⟩ := h; rfl) | (obtain ⟨_, _, _, _, rfl, _⟩ := h; rfl) | (obtain ⟨_, _, _, _, _, rfl, _⟩ := h; rfl) | (obtain ⟨_, _, _, _, _, _, rfl, _⟩ := h; rfl) | (obtain ⟨_, _, _, _, _, _, _, rfl, _⟩ := h; rfl) | (obtain ⟨_, _, _, _, _, _, _, _, rfl, _⟩ := h; rfl) | (obtain ⟨_, _, _, _, _, _, _, _, _, rfl, _⟩ := h; rfl) | (obtain ⟨_, _, _, _, _, _, _, _, _, _, rfl, _⟩ := h; rfl) | (obtain ⟨_, _, _, _, _, _, _, _, _, _, _, rfl, _⟩ := h; rfl) | (obtain ⟨_, _, _, _, _, _, _, _, _, _, _, _, rfl, _⟩ := h; rfl) | (obtain ⟨_, _, _, _, _, _, _, _, _, _, _, _, _, rfl, _⟩ := h; rfl) | (obtain ⟨_, _, _, _, _, _, _, _, _, _, _, _, _, _, rfl, _⟩ := h; rfl) | (obtain ⟨_, _, _, _, _, _, _, _, _, _, _, _, _, _, _, rfl, _⟩ := h; rfl) | (obtain ⟨_, _, _, _, _, _, _, _, _, _, _, _, _, _, _, _, rfl, _⟩ := h; rfl) | (obtain ⟨_, _, _, _, _, _, _, _, _, _, _, _, _, _, _, _, _, rfl, _⟩ := h; rfl) | (obtain ⟨_, _, _, _, _, _, _, _, _, _, _, _, _, _, _, _, _, _, rfl, _⟩ := h; rfl) | (obtain ⟨_, _, _, _, _, _, _, _, _, _, _, _, _, _, _, _, _, _, _, rfl, _⟩ := h; rfl) | (obtain ⟨_, _, _, _, _, _, _, _, _, _, _, _, _, _, _, _, _, _, _, _, rfl, _⟩ := h; rfl) | (obtain ⟨_, _, _, _, _, _, _, _, _, _, _, _, _, _, _, _, _, _, _, _, _, rfl, _⟩ := h; rfl) | (obtain ⟨_, _, _, _, _, _, _, _, _, _, _, _, _, _, _, _, _, _, _, _, _, _, rfl, _⟩ := h; rfl) | (obtain ⟨_, _, _, _, _, _, _, _, _, _, _, _, _, _, _, _, _, _, _, _, _, _, _, rfl, _⟩ := h; rfl) | (obtain ⟨_, _, _, _, _, _, _, _, _, _, _, _, _, _, _, _, _, _, _, _, _, _, _, _, rfl, _⟩ := h; rfl) | (obtain ⟨_, _, _, _, _, _, _, _, _, _, _, _, _, _, _, _, _, _, _, _, _, _, _, _, _, rfl, _⟩ := h; rfl)) fun cdv A outer s H E hr tk => ⟨_, t_reduced_measure M (F_swap_measure M D) (by decide) (F_measure M D) (by decide) (F_walk M D) (by decide) (F_reduced_root M D) (by decide) hr tk, fun ts K0 Z0 h => pl_reduced_measure dd ts K0 Z0 h⟩
theorem F_reduced_at (M : Md P w K mg base) (D : Ds K mg) : Fn1 P w K mg base 155 "reduced_at" ["term", "node"] (spP K (g_reduced_at (He.ga K) dd).pf) :=
  fn_PT (k := 154) D.d_reduced_at sc_reduced_at (fun ts K0 Z0 h => by first | (obtain ⟨rfl, _⟩ := h; rfl) | (obtain ⟨_, rfl, _⟩ := h; rfl) | (obtain ⟨_, _, rfl, _⟩ := h; rfl) | (obtain ⟨_, _, _, rfl, _⟩ := h; rfl) | (obtain ⟨_, _, _, _, rfl, _⟩ := h; rfl) | (obtain ⟨_, _, _, _, _, rfl, _⟩ := h; rfl) | (obtain ⟨_, _, _, _, _, _, rfl, _⟩ := h; rfl) | (obtain ⟨_, _, _, _, _, _, _, rfl, _⟩ := h; rfl) | (obtain ⟨_, _, _, _, _, _, _, _, rfl, _⟩ := h; rfl) | (obtain ⟨_, _, _, _, _, _, _, _, _, rfl, _⟩ := h; rfl) | (obtain ⟨_, _, _, _, _, _, _, _, _, _, rfl, _⟩ := h; rfl) | (obtain ⟨_, _, _, _, _, _, _, _, _, _, _, rfl, _⟩ := h; rfl) | (obtain ⟨_, _, _, _, _, _, _, _, _, _, _, _, rfl, _⟩ := h; rfl) | (obtain ⟨_, _, _, _, _, _, _, _, _, _, _, _, _, rfl, _⟩ := h; rfl) | (obtain ⟨_, _, _, _, _, _, _, _, _, _, _, _, _, _, rfl, _⟩ := h; rfl) | (obtain ⟨_, _, _, _, _, _, _, _, _, _, _, _, _, _, _, rfl, _⟩ := h; rfl) | (obtain ⟨_, _, _, _, _, _, _, _, _, _, _, _, _, _, _, _, rfl, _⟩ := h; rfl) | (obtain ⟨_, _, _, _, _, _, _, _, _, _, _, _, _, _, _, _, _, rfl, _⟩ := h; rfl) | (obtain ⟨_, _, _, _, _, _, _, _, _, _, _, _, _, _, _, _, _, _, rfl, _⟩ := h; rfl) | (obtain ⟨_, _, _, _, _, _, _, _, _, _, _, _, _, _, _, _, _, _, _, rfl, _⟩ := h; rfl) | (obtain ⟨_, _, _, _, _, _, _, _, _, _, _, _, _, _, _, _, _, _, _, _, rfl, _⟩ := h; rfl) | (obtain ⟨_, _, _, _, _, _, _, _, _, _, _, _, _, _, _, _, _, _, _, _, _, rfl, _⟩ := h; rfl) | (obtain ⟨_, _, _, _, _, _, _, _, _, _, _, _, _, _, _, _, _, _, _, _, _, _, rfl, _⟩ := h; rfl) | (obtain ⟨_, _, _, _, _, _, _, _, _, _, _, _, _, _, _, _, _, _, _, _, _, _, _, rfl, _⟩ := h; rfl) | (obtain ⟨_, _, _, _, _, _, _, _, _, _, _, _, _, _, _, _, _, _, _, _, _, _, _, _, rfl, _⟩ := h; rfl) | (obtain ⟨_, _, _, _, _, _, _, _, _, _, _, _, _, _, _, _, _, _, _, _, _, _, _, _, _, rfl, _⟩ := h; rfl)) fun cdv A outer s H E hr tk => ⟨_, t_reduced_at M (by decide) (F_walk M D) (by decide) (F_is_redex M D) (by decide) (F_reduced_measure M D) (by decide) (F_measure M D) (by decide) (F_refuse_great M D) (by decide) (F_with_term M D) (by decide) (F_reduced_root M D) (by decide) hr tk, fun ts K0 Z0 h => pl_reduced_at (He.ga K) dd ts K0 Z0 h⟩
theorem F__law_mixed (M : Md P w K mg base) (D : Ds K mg) : Fn1 P w K mg base 1 "_law_mixed" ["number"] (spP K (g__law_mixed).pf) :=
  fn_PT (k := 0) D.d__law_mixed sc__law_mixed (fun ts K0 Z0 h => by first | (obtain ⟨rfl, _⟩ := h; rfl) | (obtain ⟨_, rfl, _⟩ := h; rfl) | (obtain ⟨_, _, rfl, _⟩ := h; rfl) | (obtain ⟨_, _, _, rfl, _⟩ := h; rfl) | (obtain ⟨_, _, _, _, rfl, _⟩ := h; rfl) | (obtain ⟨_, _, _, _, _, rfl, _⟩ := h; rfl) | (obtain ⟨_, _, _, _, _, _, rfl, _⟩ := h; rfl) | (obtain ⟨_, _, _, _, _, _, _, rfl, _⟩ := h; rfl) | (obtain ⟨_, _, _, _, _, _, _, _, rfl, _⟩ := h; rfl) | (obtain ⟨_, _, _, _, _, _, _, _, _, rfl, _⟩ := h; rfl) | (obtain ⟨_, _, _, _, _, _, _, _, _, _, rfl, _⟩ := h; rfl) | (obtain ⟨_, _, _, _, _, _, _, _, _, _, _, rfl, _⟩ := h; rfl) | (obtain ⟨_, _, _, _, _, _, _, _, _, _, _, _, rfl, _⟩ := h; rfl) | (obtain ⟨_, _, _, _, _, _, _, _, _, _, _, _, _, rfl, _⟩ := h; rfl) | (obtain ⟨_, _, _, _, _, _, _, _, _, _, _, _, _, _, rfl, _⟩ := h; rfl) | (obtain ⟨_, _, _, _, _, _, _, _, _, _, _, _, _, _, _, rfl, _⟩ := h; rfl) | (obtain ⟨_, _, _, _, _, _, _, _, _, _, _, _, _, _, _, _, rfl, _⟩ := h; rfl) | (obtain ⟨_, _, _, _, _, _, _, _, _, _, _, _, _, _, _, _, _, rfl, _⟩ := h; rfl) | (obtain ⟨_, _, _, _, _, _, _, _, _, _, _, _, _, _, _, _, _, _, rfl, _⟩ := h; rfl) | (obtain ⟨_, _, _, _, _, _, _, _, _, _, _, _, _, _, _, _, _, _, _, rfl, _⟩ := h; rfl) | (obtain ⟨_, _, _, _, _, _, _, _, _, _, _, _, _, _, _, _, _, _, _, _, rfl, _⟩ := h; rfl) | (obtain ⟨_, _, _, _, _, _, _, _, _, _, _, _, _, _, _, _, _, _, _, _, _, rfl, _⟩ := h; rfl) | (obtain ⟨_, _, _, _, _, _, _, _, _, _, _, _, _, _, _, _, _, _, _, _, _, _, rfl, _⟩ := h; rfl) | (obtain ⟨_, _, _, _, _, _, _, _, _, _, _, _, _, _, _, _, _, _, _, _, _, _, _, rfl, _⟩ := h; rfl) | (obtain ⟨_, _, _, _, _, _, _, _, _, _, _, _, _, _, _, _, _, _, _, _, _, _, _, _, rfl, _⟩ := h; rfl) | (obtain ⟨_, _, _, _, _, _, _, _, _, _, _, _, _, _, _, _, _, _, _, _, _, _, _, _, _, rfl, _⟩ := h; rfl)) fun cdv A outer s H E hr tk => ⟨_, t__law_mixed M  hr tk, fun ts K0 Z0 h => pl__law_mixed  ts K0 Z0 h⟩
theorem F__law_store (M : Md P w K mg base) (D : Ds K mg) : Fn1 P w K mg base 2 "_law_store" ["script"] (spP K (g__law_store).pf) :=
  fn_PT (k := 1) D.d__law_store sc__law_store (fun ts K0 Z0 h => by first | (obtain ⟨rfl, _⟩ := h; rfl) | (obtain ⟨_, rfl, _⟩ := h; rfl) | (obtain ⟨_, _, rfl, _⟩ := h; rfl) | (obtain ⟨_, _, _, rfl, _⟩ := h; rfl) | (obtain ⟨_, _, _, _, rfl, _⟩ := h; rfl) | (obtain ⟨_, _, _, _, _, rfl, _⟩ := h; rfl) | (obtain ⟨_, _, _, _, _, _, rfl, _⟩ := h; rfl) | (obtain ⟨_, _, _, _, _, _, _, rfl, _⟩ := h; rfl) | (obtain ⟨_, _, _, _, _, _, _, _, rfl, _⟩ := h; rfl) | (obtain ⟨_, _, _, _, _, _, _, _, _, rfl, _⟩ := h; rfl) | (obtain ⟨_, _, _, _, _, _, _, _, _, _, rfl, _⟩ := h; rfl) | (obtain ⟨_, _, _, _, _, _, _, _, _, _, _, rfl, _⟩ := h; rfl) | (obtain ⟨_, _, _, _, _, _, _, _, _, _, _, _, rfl, _⟩ := h; rfl) | (obtain ⟨_, _, _, _, _, _, _, _, _, _, _, _, _, rfl, _⟩ := h; rfl) | (obtain ⟨_, _, _, _, _, _, _, _, _, _, _, _, _, _, rfl, _⟩ := h; rfl) | (obtain ⟨_, _, _, _, _, _, _, _, _, _, _, _, _, _, _, rfl, _⟩ := h; rfl) | (obtain ⟨_, _, _, _, _, _, _, _, _, _, _, _, _, _, _, _, rfl, _⟩ := h; rfl) | (obtain ⟨_, _, _, _, _, _, _, _, _, _, _, _, _, _, _, _, _, rfl, _⟩ := h; rfl) | (obtain ⟨_, _, _, _, _, _, _, _, _, _, _, _, _, _, _, _, _, _, rfl, _⟩ := h; rfl) | (obtain ⟨_, _, _, _, _, _, _, _, _, _, _, _, _, _, _, _, _, _, _, rfl, _⟩ := h; rfl) | (obtain ⟨_, _, _, _, _, _, _, _, _, _, _, _, _, _, _, _, _, _, _, _, rfl, _⟩ := h; rfl) | (obtain ⟨_, _, _, _, _, _, _, _, _, _, _, _, _, _, _, _, _, _, _, _, _, rfl, _⟩ := h; rfl) | (obtain ⟨_, _, _, _, _, _, _, _, _, _, _, _, _, _, _, _, _, _, _, _, _, _, rfl, _⟩ := h; rfl) | (obtain ⟨_, _, _, _, _, _, _, _, _, _, _, _, _, _, _, _, _, _, _, _, _, _, _, rfl, _⟩ := h; rfl) | (obtain ⟨_, _, _, _, _, _, _, _, _, _, _, _, _, _, _, _, _, _, _, _, _, _, _, _, rfl, _⟩ := h; rfl) | (obtain ⟨_, _, _, _, _, _, _, _, _, _, _, _, _, _, _, _, _, _, _, _, _, _, _, _, _, rfl, _⟩ := h; rfl)) fun cdv A outer s H E hr tk => ⟨_, t__law_store M (F__law_mixed M D) (by decide) hr tk, fun ts K0 Z0 h => pl__law_store  ts K0 Z0 h⟩
theorem F__law_advance (M : Md P w K mg base) (D : Ds K mg) : Fn1 P w K mg base 1 "_law_advance" ["store"] (spI K (g__law_advance).pf) :=
  fn_IT (k := 0) D.d__law_advance sc__law_advance (fun o ts K0 Z0 h => by first | (obtain ⟨rfl, _⟩ := h; rfl) | (obtain ⟨_, rfl, _⟩ := h; rfl) | (obtain ⟨_, _, rfl, _⟩ := h; rfl) | (obtain ⟨_, _, _, rfl, _⟩ := h; rfl) | (obtain ⟨_, _, _, _, rfl, _⟩ := h; rfl) | (obtain ⟨_, _, _, _, _, rfl, _⟩ := h; rfl) | (obtain ⟨_, _, _, _, _, _, rfl, _⟩ := h; rfl) | (obtain ⟨_, _, _, _, _, _, _, rfl, _⟩ := h; rfl) | (obtain ⟨_, _, _, _, _, _, _, _, rfl, _⟩ := h; rfl) | (obtain ⟨_, _, _, _, _, _, _, _, _, rfl, _⟩ := h; rfl) | (obtain ⟨_, _, _, _, _, _, _, _, _, _, rfl, _⟩ := h; rfl) | (obtain ⟨_, _, _, _, _, _, _, _, _, _, _, rfl, _⟩ := h; rfl) | (obtain ⟨_, _, _, _, _, _, _, _, _, _, _, _, rfl, _⟩ := h; rfl) | (obtain ⟨_, _, _, _, _, _, _, _, _, _, _, _, _, rfl, _⟩ := h; rfl) | (obtain ⟨_, _, _, _, _, _, _, _, _, _, _, _, _, _, rfl, _⟩ := h; rfl) | (obtain ⟨_, _, _, _, _, _, _, _, _, _, _, _, _, _, _, rfl, _⟩ := h; rfl) | (obtain ⟨_, _, _, _, _, _, _, _, _, _, _, _, _, _, _, _, rfl, _⟩ := h; rfl) | (obtain ⟨_, _, _, _, _, _, _, _, _, _, _, _, _, _, _, _, _, rfl, _⟩ := h; rfl) | (obtain ⟨_, _, _, _, _, _, _, _, _, _, _, _, _, _, _, _, _, _, rfl, _⟩ := h; rfl) | (obtain ⟨_, _, _, _, _, _, _, _, _, _, _, _, _, _, _, _, _, _, _, rfl, _⟩ := h; rfl) | (obtain ⟨_, _, _, _, _, _, _, _, _, _, _, _, _, _, _, _, _, _, _, _, rfl, _⟩ := h; rfl) | (obtain ⟨_, _, _, _, _, _, _, _, _, _, _, _, _, _, _, _, _, _, _, _, _, rfl, _⟩ := h; rfl) | (obtain ⟨_, _, _, _, _, _, _, _, _, _, _, _, _, _, _, _, _, _, _, _, _, _, rfl, _⟩ := h; rfl) | (obtain ⟨_, _, _, _, _, _, _, _, _, _, _, _, _, _, _, _, _, _, _, _, _, _, _, rfl, _⟩ := h; rfl) | (obtain ⟨_, _, _, _, _, _, _, _, _, _, _, _, _, _, _, _, _, _, _, _, _, _, _, _, rfl, _⟩ := h; rfl) | (obtain ⟨_, _, _, _, _, _, _, _, _, _, _, _, _, _, _, _, _, _, _, _, _, _, _, _, _, rfl, _⟩ := h; rfl)) fun cdv A outer s H E hr tk => ⟨_, t__law_advance M  hr tk, fun v0 o ts K0 Z0 h => pl__law_advance  v0 o ts K0 Z0 h⟩
theorem F__law_take (M : Md P w K mg base) (D : Ds K mg) : Fn1 P w K mg base 2 "_law_take" ["store", "many"] (spI K (g__law_take).pf) :=
  fn_IT (k := 1) D.d__law_take sc__law_take (fun o ts K0 Z0 h => by first | (obtain ⟨rfl, _⟩ := h; rfl) | (obtain ⟨_, rfl, _⟩ := h; rfl) | (obtain ⟨_, _, rfl, _⟩ := h; rfl) | (obtain ⟨_, _, _, rfl, _⟩ := h; rfl) | (obtain ⟨_, _, _, _, rfl, _⟩ := h; rfl) | (obtain ⟨_, _, _, _, _, rfl, _⟩ := h; rfl) | (obtain ⟨_, _, _, _, _, _, rfl, _⟩ := h; rfl) | (obtain ⟨_, _, _, _, _, _, _, rfl, _⟩ := h; rfl) | (obtain ⟨_, _, _, _, _, _, _, _, rfl, _⟩ := h; rfl) | (obtain ⟨_, _, _, _, _, _, _, _, _, rfl, _⟩ := h; rfl) | (obtain ⟨_, _, _, _, _, _, _, _, _, _, rfl, _⟩ := h; rfl) | (obtain ⟨_, _, _, _, _, _, _, _, _, _, _, rfl, _⟩ := h; rfl) | (obtain ⟨_, _, _, _, _, _, _, _, _, _, _, _, rfl, _⟩ := h; rfl) | (obtain ⟨_, _, _, _, _, _, _, _, _, _, _, _, _, rfl, _⟩ := h; rfl) | (obtain ⟨_, _, _, _, _, _, _, _, _, _, _, _, _, _, rfl, _⟩ := h; rfl) | (obtain ⟨_, _, _, _, _, _, _, _, _, _, _, _, _, _, _, rfl, _⟩ := h; rfl) | (obtain ⟨_, _, _, _, _, _, _, _, _, _, _, _, _, _, _, _, rfl, _⟩ := h; rfl) | (obtain ⟨_, _, _, _, _, _, _, _, _, _, _, _, _, _, _, _, _, rfl, _⟩ := h; rfl) | (obtain ⟨_, _, _, _, _, _, _, _, _, _, _, _, _, _, _, _, _, _, rfl, _⟩ := h; rfl) | (obtain ⟨_, _, _, _, _, _, _, _, _, _, _, _, _, _, _, _, _, _, _, rfl, _⟩ := h; rfl) | (obtain ⟨_, _, _, _, _, _, _, _, _, _, _, _, _, _, _, _, _, _, _, _, rfl, _⟩ := h; rfl) | (obtain ⟨_, _, _, _, _, _, _, _, _, _, _, _, _, _, _, _, _, _, _, _, _, rfl, _⟩ := h; rfl) | (obtain ⟨_, _, _, _, _, _, _, _, _, _, _, _, _, _, _, _, _, _, _, _, _, _, rfl, _⟩ := h; rfl) | (obtain ⟨_, _, _, _, _, _, _, _, _, _, _, _, _, _, _, _, _, _, _, _, _, _, _, rfl, _⟩ := h; rfl) | (obtain ⟨_, _, _, _, _, _, _, _, _, _, _, _, _, _, _, _, _, _, _, _, _, _, _, _, rfl, _⟩ := h; rfl) | (obtain ⟨_, _, _, _, _, _, _, _, _, _, _, _, _, _, _, _, _, _, _, _, _, _, _, _, _, rfl, _⟩ := h; rfl)) fun cdv A outer s H E hr tk => ⟨_, t__law_take M (F__law_advance M D) (by decide) (F__law_mixed M D) (by decide) hr tk, fun v0 o ts K0 Z0 h => pl__law_take  v0 o ts K0 Z0 h⟩
theorem F__law_pick (M : Md P w K mg base) (D : Ds K mg) : Fn1 P w K mg base 3 "_law_pick" ["store", "things"] (spI K (g__law_pick).pf) :=
  fn_IT (k := 2) D.d__law_pick sc__law_pick (fun o ts K0 Z0 h => by first | (obtain ⟨rfl, _⟩ := h; rfl) | (obtain ⟨_, rfl, _⟩ := h; rfl) | (obtain ⟨_, _, rfl, _⟩ := h; rfl) | (obtain ⟨_, _, _, rfl, _⟩ := h; rfl) | (obtain ⟨_, _, _, _, rfl, _⟩ := h; rfl) | (obtain ⟨_, _, _, _, _, rfl, _⟩ := h; rfl) | (obtain ⟨_, _, _, _, _, _, rfl, _⟩ := h; rfl) | (obtain ⟨_, _, _, _, _, _, _, rfl, _⟩ := h; rfl) | (obtain ⟨_, _, _, _, _, _, _, _, rfl, _⟩ := h; rfl) | (obtain ⟨_, _, _, _, _, _, _, _, _, rfl, _⟩ := h; rfl) | (obtain ⟨_, _, _, _, _, _, _, _, _, _, rfl, _⟩ := h; rfl) | (obtain ⟨_, _, _, _, _, _, _, _, _, _, _, rfl, _⟩ := h; rfl) | (obtain ⟨_, _, _, _, _, _, _, _, _, _, _, _, rfl, _⟩ := h; rfl) | (obtain ⟨_, _, _, _, _, _, _, _, _, _, _, _, _, rfl, _⟩ := h; rfl) | (obtain ⟨_, _, _, _, _, _, _, _, _, _, _, _, _, _, rfl, _⟩ := h; rfl) | (obtain ⟨_, _, _, _, _, _, _, _, _, _, _, _, _, _, _, rfl, _⟩ := h; rfl) | (obtain ⟨_, _, _, _, _, _, _, _, _, _, _, _, _, _, _, _, rfl, _⟩ := h; rfl) | (obtain ⟨_, _, _, _, _, _, _, _, _, _, _, _, _, _, _, _, _, rfl, _⟩ := h; rfl) | (obtain ⟨_, _, _, _, _, _, _, _, _, _, _, _, _, _, _, _, _, _, rfl, _⟩ := h; rfl) | (obtain ⟨_, _, _, _, _, _, _, _, _, _, _, _, _, _, _, _, _, _, _, rfl, _⟩ := h; rfl) | (obtain ⟨_, _, _, _, _, _, _, _, _, _, _, _, _, _, _, _, _, _, _, _, rfl, _⟩ := h; rfl) | (obtain ⟨_, _, _, _, _, _, _, _, _, _, _, _, _, _, _, _, _, _, _, _, _, rfl, _⟩ := h; rfl) | (obtain ⟨_, _, _, _, _, _, _, _, _, _, _, _, _, _, _, _, _, _, _, _, _, _, rfl, _⟩ := h; rfl) | (obtain ⟨_, _, _, _, _, _, _, _, _, _, _, _, _, _, _, _, _, _, _, _, _, _, _, rfl, _⟩ := h; rfl) | (obtain ⟨_, _, _, _, _, _, _, _, _, _, _, _, _, _, _, _, _, _, _, _, _, _, _, _, rfl, _⟩ := h; rfl) | (obtain ⟨_, _, _, _, _, _, _, _, _, _, _, _, _, _, _, _, _, _, _, _, _, _, _, _, _, rfl, _⟩ := h; rfl)) fun cdv A outer s H E hr tk => ⟨_, t__law_pick M (F__law_take M D) (by decide) hr tk, fun v0 o ts K0 Z0 h => pl__law_pick  v0 o ts K0 Z0 h⟩
theorem F__law_amount (M : Md P w K mg base) (D : Ds K mg) : Fn1 P w K mg base 3 "_law_amount" ["store", "low", "high"] (spI K (g__law_amount).pf) :=
  fn_IT (k := 2) D.d__law_amount sc__law_amount (fun o ts K0 Z0 h => by first | (obtain ⟨rfl, _⟩ := h; rfl) | (obtain ⟨_, rfl, _⟩ := h; rfl) | (obtain ⟨_, _, rfl, _⟩ := h; rfl) | (obtain ⟨_, _, _, rfl, _⟩ := h; rfl) | (obtain ⟨_, _, _, _, rfl, _⟩ := h; rfl) | (obtain ⟨_, _, _, _, _, rfl, _⟩ := h; rfl) | (obtain ⟨_, _, _, _, _, _, rfl, _⟩ := h; rfl) | (obtain ⟨_, _, _, _, _, _, _, rfl, _⟩ := h; rfl) | (obtain ⟨_, _, _, _, _, _, _, _, rfl, _⟩ := h; rfl) | (obtain ⟨_, _, _, _, _, _, _, _, _, rfl, _⟩ := h; rfl) | (obtain ⟨_, _, _, _, _, _, _, _, _, _, rfl, _⟩ := h; rfl) | (obtain ⟨_, _, _, _, _, _, _, _, _, _, _, rfl, _⟩ := h; rfl) | (obtain ⟨_, _, _, _, _, _, _, _, _, _, _, _, rfl, _⟩ := h; rfl) | (obtain ⟨_, _, _, _, _, _, _, _, _, _, _, _, _, rfl, _⟩ := h; rfl) | (obtain ⟨_, _, _, _, _, _, _, _, _, _, _, _, _, _, rfl, _⟩ := h; rfl) | (obtain ⟨_, _, _, _, _, _, _, _, _, _, _, _, _, _, _, rfl, _⟩ := h; rfl) | (obtain ⟨_, _, _, _, _, _, _, _, _, _, _, _, _, _, _, _, rfl, _⟩ := h; rfl) | (obtain ⟨_, _, _, _, _, _, _, _, _, _, _, _, _, _, _, _, _, rfl, _⟩ := h; rfl) | (obtain ⟨_, _, _, _, _, _, _, _, _, _, _, _, _, _, _, _, _, _, rfl, _⟩ := h; rfl) | (obtain ⟨_, _, _, _, _, _, _, _, _, _, _, _, _, _, _, _, _, _, _, rfl, _⟩ := h; rfl) | (obtain ⟨_, _, _, _, _, _, _, _, _, _, _, _, _, _, _, _, _, _, _, _, rfl, _⟩ := h; rfl) | (obtain ⟨_, _, _, _, _, _, _, _, _, _, _, _, _, _, _, _, _, _, _, _, _, rfl, _⟩ := h; rfl) | (obtain ⟨_, _, _, _, _, _, _, _, _, _, _, _, _, _, _, _, _, _, _, _, _, _, rfl, _⟩ := h; rfl) | (obtain ⟨_, _, _, _, _, _, _, _, _, _, _, _, _, _, _, _, _, _, _, _, _, _, _, rfl, _⟩ := h; rfl) | (obtain ⟨_, _, _, _, _, _, _, _, _, _, _, _, _, _, _, _, _, _, _, _, _, _, _, _, rfl, _⟩ := h; rfl) | (obtain ⟨_, _, _, _, _, _, _, _, _, _, _, _, _, _, _, _, _, _, _, _, _, _, _, _, _, rfl, _⟩ := h; rfl)) fun cdv A outer s H E hr tk => ⟨_, t__law_amount M (F__law_take M D) (by decide) hr tk, fun v0 o ts K0 Z0 h => pl__law_amount  v0 o ts K0 Z0 h⟩
theorem F__law_letters (M : Md P w K mg base) (D : Ds K mg) : Fn1 P w K mg base 3 "_law_letters" ["store", "many"] (spI K (g__law_letters).pf) :=
  fn_IT (k := 2) D.d__law_letters sc__law_letters (fun o ts K0 Z0 h => by first | (obtain ⟨rfl, _⟩ := h; rfl) | (obtain ⟨_, rfl, _⟩ := h; rfl) | (obtain ⟨_, _, rfl, _⟩ := h; rfl) | (obtain ⟨_, _, _, rfl, _⟩ := h; rfl) | (obtain ⟨_, _, _, _, rfl, _⟩ := h; rfl) | (obtain ⟨_, _, _, _, _, rfl, _⟩ := h; rfl) | (obtain ⟨_, _, _, _, _, _, rfl, _⟩ := h; rfl) | (obtain ⟨_, _, _, _, _, _, _, rfl, _⟩ := h; rfl) | (obtain ⟨_, _, _, _, _, _, _, _, rfl, _⟩ := h; rfl) | (obtain ⟨_, _, _, _, _, _, _, _, _, rfl, _⟩ := h; rfl) | (obtain ⟨_, _, _, _, _, _, _, _, _, _, rfl, _⟩ := h; rfl) | (obtain ⟨_, _, _, _, _, _, _, _, _, _, _, rfl, _⟩ := h; rfl) | (obtain ⟨_, _, _, _, _, _, _, _, _, _, _, _, rfl, _⟩ := h; rfl) | (obtain ⟨_, _, _, _, _, _, _, _, _, _, _, _, _, rfl, _⟩ := h; rfl) | (obtain ⟨_, _, _, _, _, _, _, _, _, _, _, _, _, _, rfl, _⟩ := h; rfl) | (obtain ⟨_, _, _, _, _, _, _, _, _, _, _, _, _, _, _, rfl, _⟩ := h; rfl) | (obtain ⟨_, _, _, _, _, _, _, _, _, _, _, _, _, _, _, _, rfl, _⟩ := h; rfl) | (obtain ⟨_, _, _, _, _, _, _, _, _, _, _, _, _, _, _, _, _, rfl, _⟩ := h; rfl) | (obtain ⟨_, _, _, _, _, _, _, _, _, _, _, _, _, _, _, _, _, _, rfl, _⟩ := h; rfl) | (obtain ⟨_, _, _, _, _, _, _, _, _, _, _, _, _, _, _, _, _, _, _, rfl, _⟩ := h; rfl) | (obtain ⟨_, _, _, _, _, _, _, _, _, _, _, _, _, _, _, _, _, _, _, _, rfl, _⟩ := h; rfl) | (obtain ⟨_, _, _, _, _, _, _, _, _, _, _, _, _, _, _, _, _, _, _, _, _, rfl, _⟩ := h; rfl) | (obtain ⟨_, _, _, _, _, _, _, _, _, _, _, _, _, _, _, _, _, _, _, _, _, _, rfl, _⟩ := h; rfl) | (obtain ⟨_, _, _, _, _, _, _, _, _, _, _, _, _, _, _, _, _, _, _, _, _, _, _, rfl, _⟩ := h; rfl) | (obtain ⟨_, _, _, _, _, _, _, _, _, _, _, _, _, _, _, _, _, _, _, _, _, _, _, _, rfl, _⟩ := h; rfl) | (obtain ⟨_, _, _, _, _, _, _, _, _, _, _, _, _, _, _, _, _, _, _, _, _, _, _, _, _, rfl, _⟩ := h; rfl)) fun cdv A outer s H E hr tk => ⟨_, t__law_letters M (F__law_take M D) (by decide) hr tk, fun v0 o ts K0 Z0 h => pl__law_letters  v0 o ts K0 Z0 h⟩
theorem F__law_leaf (M : Md P w K mg base) (D : Ds K mg) : Fn1 P w K mg base 4 "_law_leaf" ["store", "kinds", "many"] (spI K (g__law_leaf).pf) :=
  fn_IT (k := 3) D.d__law_leaf sc__law_leaf (fun o ts K0 Z0 h => by first | (obtain ⟨rfl, _⟩ := h; rfl) | (obtain ⟨_, rfl, _⟩ := h; rfl) | (obtain ⟨_, _, rfl, _⟩ := h; rfl) | (obtain ⟨_, _, _, rfl, _⟩ := h; rfl) | (obtain ⟨_, _, _, _, rfl, _⟩ := h; rfl) | (obtain ⟨_, _, _, _, _, rfl, _⟩ := h; rfl) | (obtain ⟨_, _, _, _, _, _, rfl, _⟩ := h; rfl) | (obtain ⟨_, _, _, _, _, _, _, rfl, _⟩ := h; rfl) | (obtain ⟨_, _, _, _, _, _, _, _, rfl, _⟩ := h; rfl) | (obtain ⟨_, _, _, _, _, _, _, _, _, rfl, _⟩ := h; rfl) | (obtain ⟨_, _, _, _, _, _, _, _, _, _, rfl, _⟩ := h; rfl) | (obtain ⟨_, _, _, _, _, _, _, _, _, _, _, rfl, _⟩ := h; rfl) | (obtain ⟨_, _, _, _, _, _, _, _, _, _, _, _, rfl, _⟩ := h; rfl) | (obtain ⟨_, _, _, _, _, _, _, _, _, _, _, _, _, rfl, _⟩ := h; rfl) | (obtain ⟨_, _, _, _, _, _, _, _, _, _, _, _, _, _, rfl, _⟩ := h; rfl) | (obtain ⟨_, _, _, _, _, _, _, _, _, _, _, _, _, _, _, rfl, _⟩ := h; rfl) | (obtain ⟨_, _, _, _, _, _, _, _, _, _, _, _, _, _, _, _, rfl, _⟩ := h; rfl) | (obtain ⟨_, _, _, _, _, _, _, _, _, _, _, _, _, _, _, _, _, rfl, _⟩ := h; rfl) | (obtain ⟨_, _, _, _, _, _, _, _, _, _, _, _, _, _, _, _, _, _, rfl, _⟩ := h; rfl) | (obtain ⟨_, _, _, _, _, _, _, _, _, _, _, _, _, _, _, _, _, _, _, rfl, _⟩ := h; rfl) | (obtain ⟨_, _, _, _, _, _, _, _, _, _, _, _, _, _, _, _, _, _, _, _, rfl, _⟩ := h; rfl) | (obtain ⟨_, _, _, _, _, _, _, _, _, _, _, _, _, _, _, _, _, _, _, _, _, rfl, _⟩ := h; rfl) | (obtain ⟨_, _, _, _, _, _, _, _, _, _, _, _, _, _, _, _, _, _, _, _, _, _, rfl, _⟩ := h; rfl) | (obtain ⟨_, _, _, _, _, _, _, _, _, _, _, _, _, _, _, _, _, _, _, _, _, _, _, rfl, _⟩ := h; rfl) | (obtain ⟨_, _, _, _, _, _, _, _, _, _, _, _, _, _, _, _, _, _, _, _, _, _, _, _, rfl, _⟩ := h; rfl) | (obtain ⟨_, _, _, _, _, _, _, _, _, _, _, _, _, _, _, _, _, _, _, _, _, _, _, _, _, rfl, _⟩ := h; rfl)) fun cdv A outer s H E hr tk => ⟨_, t__law_leaf M (F__law_take M D) (by decide) (F__law_pick M D) (by decide) hr tk, fun v0 o ts K0 Z0 h => pl__law_leaf  v0 o ts K0 Z0 h⟩
theorem F__law_form (M : Md P w K mg base) (D : Ds K mg) : Fn1 P w K mg base 5 "_law_form" ["store", "kinds", "many", "steps"] (spI K (g__law_form).pf) :=
  fn_IT (k := 4) D.d__law_form sc__law_form (fun o ts K0 Z0 h => by first | (obtain ⟨rfl, _⟩ := h; rfl) | (obtain ⟨_, rfl, _⟩ := h; rfl) | (obtain ⟨_, _, rfl, _⟩ := h; rfl) | (obtain ⟨_, _, _, rfl, _⟩ := h; rfl) | (obtain ⟨_, _, _, _, rfl, _⟩ := h; rfl) | (obtain ⟨_, _, _, _, _, rfl, _⟩ := h; rfl) | (obtain ⟨_, _, _, _, _, _, rfl, _⟩ := h; rfl) | (obtain ⟨_, _, _, _, _, _, _, rfl, _⟩ := h; rfl) | (obtain ⟨_, _, _, _, _, _, _, _, rfl, _⟩ := h; rfl) | (obtain ⟨_, _, _, _, _, _, _, _, _, rfl, _⟩ := h; rfl) | (obtain ⟨_, _, _, _, _, _, _, _, _, _, rfl, _⟩ := h; rfl) | (obtain ⟨_, _, _, _, _, _, _, _, _, _, _, rfl, _⟩ := h; rfl) | (obtain ⟨_, _, _, _, _, _, _, _, _, _, _, _, rfl, _⟩ := h; rfl) | (obtain ⟨_, _, _, _, _, _, _, _, _, _, _, _, _, rfl, _⟩ := h; rfl) | (obtain ⟨_, _, _, _, _, _, _, _, _, _, _, _, _, _, rfl, _⟩ := h; rfl) | (obtain ⟨_, _, _, _, _, _, _, _, _, _, _, _, _, _, _, rfl, _⟩ := h; rfl) | (obtain ⟨_, _, _, _, _, _, _, _, _, _, _, _, _, _, _, _, rfl, _⟩ := h; rfl) | (obtain ⟨_, _, _, _, _, _, _, _, _, _, _, _, _, _, _, _, _, rfl, _⟩ := h; rfl) | (obtain ⟨_, _, _, _, _, _, _, _, _, _, _, _, _, _, _, _, _, _, rfl, _⟩ := h; rfl) | (obtain ⟨_, _, _, _, _, _, _, _, _, _, _, _, _, _, _, _, _, _, _, rfl, _⟩ := h; rfl) | (obtain ⟨_, _, _, _, _, _, _, _, _, _, _, _, _, _, _, _, _, _, _, _, rfl, _⟩ := h; rfl) | (obtain ⟨_, _, _, _, _, _, _, _, _, _, _, _, _, _, _, _, _, _, _, _, _, rfl, _⟩ := h; rfl) | (obtain ⟨_, _, _, _, _, _, _, _, _, _, _, _, _, _, _, _, _, _, _, _, _, _, rfl, _⟩ := h; rfl) | (obtain ⟨_, _, _, _, _, _, _, _, _, _, _, _, _, _, _, _, _, _, _, _, _, _, _, rfl, _⟩ := h; rfl) | (obtain ⟨_, _, _, _, _, _, _, _, _, _, _, _, _, _, _, _, _, _, _, _, _, _, _, _, rfl, _⟩ := h; rfl) | (obtain ⟨_, _, _, _, _, _, _, _, _, _, _, _, _, _, _, _, _, _, _, _, _, _, _, _, _, rfl, _⟩ := h; rfl)) fun cdv A outer s H E hr tk => ⟨_, t__law_form M (F__law_take M D) (by decide) (F__law_leaf M D) (by decide) (F__law_pick M D) (by decide) hr tk, fun v0 o ts K0 Z0 h => pl__law_form  v0 o ts K0 Z0 h⟩
theorem F__law_ground (M : Md P w K mg base) (D : Ds K mg) : Fn1 P w K mg base 6 "_law_ground" ["store", "kinds"] (spI K (g__law_ground).pf) :=
  fn_IT (k := 5) D.d__law_ground sc__law_ground (fun o ts K0 Z0 h => by first | (obtain ⟨rfl, _⟩ := h; rfl) | (obtain ⟨_, rfl, _⟩ := h; rfl) | (obtain ⟨_, _, rfl, _⟩ := h; rfl) | (obtain ⟨_, _, _, rfl, _⟩ := h; rfl) | (obtain ⟨_, _, _, _, rfl, _⟩ := h; rfl) | (obtain ⟨_, _, _, _, _, rfl, _⟩ := h; rfl) | (obtain ⟨_, _, _, _, _, _, rfl, _⟩ := h; rfl) | (obtain ⟨_, _, _, _, _, _, _, rfl, _⟩ := h; rfl) | (obtain ⟨_, _, _, _, _, _, _, _, rfl, _⟩ := h; rfl) | (obtain ⟨_, _, _, _, _, _, _, _, _, rfl, _⟩ := h; rfl) | (obtain ⟨_, _, _, _, _, _, _, _, _, _, rfl, _⟩ := h; rfl) | (obtain ⟨_, _, _, _, _, _, _, _, _, _, _, rfl, _⟩ := h; rfl) | (obtain ⟨_, _, _, _, _, _, _, _, _, _, _, _, rfl, _⟩ := h; rfl) | (obtain ⟨_, _, _, _, _, _, _, _, _, _, _, _, _, rfl, _⟩ := h; rfl) | (obtain ⟨_, _, _, _, _, _, _, _, _, _, _, _, _, _, rfl, _⟩ := h; rfl) | (obtain ⟨_, _, _, _, _, _, _, _, _, _, _, _, _, _, _, rfl, _⟩ := h; rfl) | (obtain ⟨_, _, _, _, _, _, _, _, _, _, _, _, _, _, _, _, rfl, _⟩ := h; rfl) | (obtain ⟨_, _, _, _, _, _, _, _, _, _, _, _, _, _, _, _, _, rfl, _⟩ := h; rfl) | (obtain ⟨_, _, _, _, _, _, _, _, _, _, _, _, _, _, _, _, _, _, rfl, _⟩ := h; rfl) | (obtain ⟨_, _, _, _, _, _, _, _, _, _, _, _, _, _, _, _, _, _, _, rfl, _⟩ := h; rfl) | (obtain ⟨_, _, _, _, _, _, _, _, _, _, _, _, _, _, _, _, _, _, _, _, rfl, _⟩ := h; rfl) | (obtain ⟨_, _, _, _, _, _, _, _, _, _, _, _, _, _, _, _, _, _, _, _, _, rfl, _⟩ := h; rfl) | (obtain ⟨_, _, _, _, _, _, _, _, _, _, _, _, _, _, _, _, _, _, _, _, _, _, rfl, _⟩ := h; rfl) | (obtain ⟨_, _, _, _, _, _, _, _, _, _, _, _, _, _, _, _, _, _, _, _, _, _, _, rfl, _⟩ := h; rfl) | (obtain ⟨_, _, _, _, _, _, _, _, _, _, _, _, _, _, _, _, _, _, _, _, _, _, _, _, rfl, _⟩ := h; rfl) | (obtain ⟨_, _, _, _, _, _, _, _, _, _, _, _, _, _, _, _, _, _, _, _, _, _, _, _, _, rfl, _⟩ := h; rfl)) fun cdv A outer s H E hr tk => ⟨_, t__law_ground M (F__law_form M D) (by decide) (F__law_take M D) (by decide) hr tk, fun v0 o ts K0 Z0 h => pl__law_ground  v0 o ts K0 Z0 h⟩
theorem F__law_same (M : Md P w K mg base) (D : Ds K mg) : Fn1 P w K mg base 1 "_law_same" ["one", "two"] (spP K (g__law_same).pf) :=
  fn_PT (k := 0) D.d__law_same sc__law_same (fun ts K0 Z0 h => by first | (obtain ⟨rfl, _⟩ := h; rfl) | (obtain ⟨_, rfl, _⟩ := h; rfl) | (obtain ⟨_, _, rfl, _⟩ := h; rfl) | (obtain ⟨_, _, _, rfl, _⟩ := h; rfl) | (obtain ⟨_, _, _, _, rfl, _⟩ := h; rfl) | (obtain ⟨_, _, _, _, _, rfl, _⟩ := h; rfl) | (obtain ⟨_, _, _, _, _, _, rfl, _⟩ := h; rfl) | (obtain ⟨_, _, _, _, _, _, _, rfl, _⟩ := h; rfl) | (obtain ⟨_, _, _, _, _, _, _, _, rfl, _⟩ := h; rfl) | (obtain ⟨_, _, _, _, _, _, _, _, _, rfl, _⟩ := h; rfl) | (obtain ⟨_, _, _, _, _, _, _, _, _, _, rfl, _⟩ := h; rfl) | (obtain ⟨_, _, _, _, _, _, _, _, _, _, _, rfl, _⟩ := h; rfl) | (obtain ⟨_, _, _, _, _, _, _, _, _, _, _, _, rfl, _⟩ := h; rfl) | (obtain ⟨_, _, _, _, _, _, _, _, _, _, _, _, _, rfl, _⟩ := h; rfl) | (obtain ⟨_, _, _, _, _, _, _, _, _, _, _, _, _, _, rfl, _⟩ := h; rfl) | (obtain ⟨_, _, _, _, _, _, _, _, _, _, _, _, _, _, _, rfl, _⟩ := h; rfl) | (obtain ⟨_, _, _, _, _, _, _, _, _, _, _, _, _, _, _, _, rfl, _⟩ := h; rfl) | (obtain ⟨_, _, _, _, _, _, _, _, _, _, _, _, _, _, _, _, _, rfl, _⟩ := h; rfl) | (obtain ⟨_, _, _, _, _, _, _, _, _, _, _, _, _, _, _, _, _, _, rfl, _⟩ := h; rfl) | (obtain ⟨_, _, _, _, _, _, _, _, _, _, _, _, _, _, _, _, _, _, _, rfl, _⟩ := h; rfl) | (obtain ⟨_, _, _, _, _, _, _, _, _, _, _, _, _, _, _, _, _, _, _, _, rfl, _⟩ := h; rfl) | (obtain ⟨_, _, _, _, _, _, _, _, _, _, _, _, _, _, _, _, _, _, _, _, _, rfl, _⟩ := h; rfl) | (obtain ⟨_, _, _, _, _, _, _, _, _, _, _, _, _, _, _, _, _, _, _, _, _, _, rfl, _⟩ := h; rfl) | (obtain ⟨_, _, _, _, _, _, _, _, _, _, _, _, _, _, _, _, _, _, _, _, _, _, _, rfl, _⟩ := h; rfl) | (obtain ⟨_, _, _, _, _, _, _, _, _, _, _, _, _, _, _, _, _, _, _, _, _, _, _, _, rfl, _⟩ := h; rfl) | (obtain ⟨_, _, _, _, _, _, _, _, _, _, _, _, _, _, _, _, _, _, _, _, _, _, _, _, _, rfl, _⟩ := h; rfl)) fun cdv A outer s H E hr tk => ⟨_, t__law_same M  hr tk, fun ts K0 Z0 h => pl__law_same  ts K0 Z0 h⟩
theorem F__law_arity (M : Md P w K mg base) (D : Ds K mg) : Fn1 P w K mg base 1 "_law_arity" ["word"] (spP K (g__law_arity).pf) :=
  fn_PT (k := 0) D.d__law_arity sc__law_arity (fun ts K0 Z0 h => by first | (obtain ⟨rfl, _⟩ := h; rfl) | (obtain ⟨_, rfl, _⟩ := h; rfl) | (obtain ⟨_, _, rfl, _⟩ := h; rfl) | (obtain ⟨_, _, _, rfl, _⟩ := h; rfl) | (obtain ⟨_, _, _, _, rfl, _⟩ := h; rfl) | (obtain ⟨_, _, _, _, _, rfl, _⟩ := h; rfl) | (obtain ⟨_, _, _, _, _, _, rfl, _⟩ := h; rfl) | (obtain ⟨_, _, _, _, _, _, _, rfl, _⟩ := h; rfl) | (obtain ⟨_, _, _, _, _, _, _, _, rfl, _⟩ := h; rfl) | (obtain ⟨_, _, _, _, _, _, _, _, _, rfl, _⟩ := h; rfl) | (obtain ⟨_, _, _, _, _, _, _, _, _, _, rfl, _⟩ := h; rfl) | (obtain ⟨_, _, _, _, _, _, _, _, _, _, _, rfl, _⟩ := h; rfl) | (obtain ⟨_, _, _, _, _, _, _, _, _, _, _, _, rfl, _⟩ := h; rfl) | (obtain ⟨_, _, _, _, _, _, _, _, _, _, _, _, _, rfl, _⟩ := h; rfl) | (obtain ⟨_, _, _, _, _, _, _, _, _, _, _, _, _, _, rfl, _⟩ := h; rfl) | (obtain ⟨_, _, _, _, _, _, _, _, _, _, _, _, _, _, _, rfl, _⟩ := h; rfl) | (obtain ⟨_, _, _, _, _, _, _, _, _, _, _, _, _, _, _, _, rfl, _⟩ := h; rfl) | (obtain ⟨_, _, _, _, _, _, _, _, _, _, _, _, _, _, _, _, _, rfl, _⟩ := h; rfl) | (obtain ⟨_, _, _, _, _, _, _, _, _, _, _, _, _, _, _, _, _, _, rfl, _⟩ := h; rfl) | (obtain ⟨_, _, _, _, _, _, _, _, _, _, _, _, _, _, _, _, _, _, _, rfl, _⟩ := h; rfl) | (obtain ⟨_, _, _, _, _, _, _, _, _, _, _, _, _, _, _, _, _, _, _, _, rfl, _⟩ := h; rfl) | (obtain ⟨_, _, _, _, _, _, _, _, _, _, _, _, _, _, _, _, _, _, _, _, _, rfl, _⟩ := h; rfl) | (obtain ⟨_, _, _, _, _, _, _, _, _, _, _, _, _, _, _, _, _, _, _, _, _, _, rfl, _⟩ := h; rfl) | (obtain ⟨_, _, _, _, _, _, _, _, _, _, _, _, _, _, _, _, _, _, _, _, _, _, _, rfl, _⟩ := h; rfl) | (obtain ⟨_, _, _, _, _, _, _, _, _, _, _, _, _, _, _, _, _, _, _, _, _, _, _, _, rfl, _⟩ := h; rfl) | (obtain ⟨_, _, _, _, _, _, _, _, _, _, _, _, _, _, _, _, _, _, _, _, _, _, _, _, _, rfl, _⟩ := h; rfl)) fun cdv A outer s H E hr tk => ⟨_, t__law_arity M  hr tk, fun ts K0 Z0 h => pl__law_arity  ts K0 Z0 h⟩
theorem F__law_term (M : Md P w K mg base) (D : Ds K mg) : Fn1 P w K mg base 2 "_law_term" ["heads"] (spP K (g__law_term).pf) :=
  fn_PT (k := 1) D.d__law_term sc__law_term (fun ts K0 Z0 h => by first | (obtain ⟨rfl, _⟩ := h; rfl) | (obtain ⟨_, rfl, _⟩ := h; rfl) | (obtain ⟨_, _, rfl, _⟩ := h; rfl) | (obtain ⟨_, _, _, rfl, _⟩ := h; rfl) | (obtain ⟨_, _, _, _, rfl, _⟩ := h; rfl) | (obtain ⟨_, _, _, _, _, rfl, _⟩ := h; rfl) | (obtain ⟨_, _, _, _, _, _, rfl, _⟩ := h; rfl) | (obtain ⟨_, _, _, _, _, _, _, rfl, _⟩ := h; rfl) | (obtain ⟨_, _, _, _, _, _, _, _, rfl, _⟩ := h; rfl) | (obtain ⟨_, _, _, _, _, _, _, _, _, rfl, _⟩ := h; rfl) | (obtain ⟨_, _, _, _, _, _, _, _, _, _, rfl, _⟩ := h; rfl) | (obtain ⟨_, _, _, _, _, _, _, _, _, _, _, rfl, _⟩ := h; rfl) | (obtain ⟨_, _, _, _, _, _, _, _, _, _, _, _, rfl, _⟩ := h; rfl) | (obtain ⟨_, _, _, _, _, _, _, _, _, _, _, _, _, rfl, _⟩ := h; rfl) | (obtain ⟨_, _, _, _, _, _, _, _, _, _, _, _, _, _, rfl, _⟩ := h; rfl) | (obtain ⟨_, _, _, _, _, _, _, _, _, _, _, _, _, _, _, rfl, _⟩ := h; rfl) | (obtain ⟨_, _, _, _, _, _, _, _, _, _, _, _, _, _, _, _, rfl, _⟩ := h; rfl) | (obtain ⟨_, _, _, _, _, _, _, _, _, _, _, _, _, _, _, _, _, rfl, _⟩ := h; rfl) | (obtain ⟨_, _, _, _, _, _, _, _, _, _, _, _, _, _, _, _, _, _, rfl, _⟩ := h; rfl) | (obtain ⟨_, _, _, _, _, _, _, _, _, _, _, _, _, _, _, _, _, _, _, rfl, _⟩ := h; rfl) | (obtain ⟨_, _, _, _, _, _, _, _, _, _, _, _, _, _, _, _, _, _, _, _, rfl, _⟩ := h; rfl) | (obtain ⟨_, _, _, _, _, _, _, _, _, _, _, _, _, _, _, _, _, _, _, _, _, rfl, _⟩ := h; rfl) | (obtain ⟨_, _, _, _, _, _, _, _, _, _, _, _, _, _, _, _, _, _, _, _, _, _, rfl, _⟩ := h; rfl) | (obtain ⟨_, _, _, _, _, _, _, _, _, _, _, _, _, _, _, _, _, _, _, _, _, _, _, rfl, _⟩ := h; rfl) | (obtain ⟨_, _, _, _, _, _, _, _, _, _, _, _, _, _, _, _, _, _, _, _, _, _, _, _, rfl, _⟩ := h; rfl) | (obtain ⟨_, _, _, _, _, _, _, _, _, _, _, _, _, _, _, _, _, _, _, _, _, _, _, _, _, rfl, _⟩ := h; rfl)) fun cdv A outer s H E hr tk => ⟨_, t__law_term M (F__law_arity M D) (by decide) hr tk, fun ts K0 Z0 h => pl__law_term  ts K0 Z0 h⟩
theorem F__law_end_head (M : Md P w K mg base) (D : Ds K mg) : Fn1 P w K mg base 4 "_law_end_head" ["store", "names", "consts", "uses", "scope", "free", "way"] (spI K (g__law_end_head).pf) :=
  fn_IT (k := 3) D.d__law_end_head sc__law_end_head (fun o ts K0 Z0 h => by first | (obtain ⟨rfl, _⟩ := h; rfl) | (obtain ⟨_, rfl, _⟩ := h; rfl) | (obtain ⟨_, _, rfl, _⟩ := h; rfl) | (obtain ⟨_, _, _, rfl, _⟩ := h; rfl) | (obtain ⟨_, _, _, _, rfl, _⟩ := h; rfl) | (obtain ⟨_, _, _, _, _, rfl, _⟩ := h; rfl) | (obtain ⟨_, _, _, _, _, _, rfl, _⟩ := h; rfl) | (obtain ⟨_, _, _, _, _, _, _, rfl, _⟩ := h; rfl) | (obtain ⟨_, _, _, _, _, _, _, _, rfl, _⟩ := h; rfl) | (obtain ⟨_, _, _, _, _, _, _, _, _, rfl, _⟩ := h; rfl) | (obtain ⟨_, _, _, _, _, _, _, _, _, _, rfl, _⟩ := h; rfl) | (obtain ⟨_, _, _, _, _, _, _, _, _, _, _, rfl, _⟩ := h; rfl) | (obtain ⟨_, _, _, _, _, _, _, _, _, _, _, _, rfl, _⟩ := h; rfl) | (obtain ⟨_, _, _, _, _, _, _, _, _, _, _, _, _, rfl, _⟩ := h; rfl) | (obtain ⟨_, _, _, _, _, _, _, _, _, _, _, _, _, _, rfl, _⟩ := h; rfl) | (obtain ⟨_, _, _, _, _, _, _, _, _, _, _, _, _, _, _, rfl, _⟩ := h; rfl) | (obtain ⟨_, _, _, _, _, _, _, _, _, _, _, _, _, _, _, _, rfl, _⟩ := h; rfl) | (obtain ⟨_, _, _, _, _, _, _, _, _, _, _, _, _, _, _, _, _, rfl, _⟩ := h; rfl) | (obtain ⟨_, _, _, _, _, _, _, _, _, _, _, _, _, _, _, _, _, _, rfl, _⟩ := h; rfl) | (obtain ⟨_, _, _, _, _, _, _, _, _, _, _, _, _, _, _, _, _, _, _, rfl, _⟩ := h; rfl) | (obtain ⟨_, _, _, _, _, _, _, _, _, _, _, _, _, _, _, _, _, _, _, _, rfl, _⟩ := h; rfl) | (obtain ⟨_, _, _, _, _, _, _, _, _, _, _, _, _, _, _, _, _, _, _, _, _, rfl, _⟩ := h; rfl) | (obtain ⟨_, _, _, _, _, _, _, _, _, _, _, _, _, _, _, _, _, _, _, _, _, _, rfl, _⟩ := h; rfl) | (obtain ⟨_, _, _, _, _, _, _, _, _, _, _, _, _, _, _, _, _, _, _, _, _, _, _, rfl, _⟩ := h; rfl) | (obtain ⟨_, _, _, _, _, _, _, _, _, _, _, _, _, _, _, _, _, _, _, _, _, _, _, _, rfl, _⟩ := h; rfl) | (obtain ⟨_, _, _, _, _, _, _, _, _, _, _, _, _, _, _, _, _, _, _, _, _, _, _, _, _, rfl, _⟩ := h; rfl)) fun cdv A outer s H E hr tk => ⟨_, t__law_end_head M (F__law_take M D) (by decide) (F__law_pick M D) (by decide) hr tk, fun v0 o ts K0 Z0 h => pl__law_end_head  v0 o ts K0 Z0 h⟩
theorem F__law_some_heads (M : Md P w K mg base) (D : Ds K mg) : Fn1 P w K mg base 7 "_law_some_heads" ["store", "names", "consts", "uses", "kinds", "size", "deep", "free"] (spI K (g__law_some_heads).pf) :=
  fn_IT (k := 6) D.d__law_some_heads sc__law_some_heads (fun o ts K0 Z0 h => by first | (obtain ⟨rfl, _⟩ := h; rfl) | (obtain ⟨_, rfl, _⟩ := h; rfl) | (obtain ⟨_, _, rfl, _⟩ := h; rfl) | (obtain ⟨_, _, _, rfl, _⟩ := h; rfl) | (obtain ⟨_, _, _, _, rfl, _⟩ := h; rfl) | (obtain ⟨_, _, _, _, _, rfl, _⟩ := h; rfl) | (obtain ⟨_, _, _, _, _, _, rfl, _⟩ := h; rfl) | (obtain ⟨_, _, _, _, _, _, _, rfl, _⟩ := h; rfl) | (obtain ⟨_, _, _, _, _, _, _, _, rfl, _⟩ := h; rfl) | (obtain ⟨_, _, _, _, _, _, _, _, _, rfl, _⟩ := h; rfl) | (obtain ⟨_, _, _, _, _, _, _, _, _, _, rfl, _⟩ := h; rfl) | (obtain ⟨_, _, _, _, _, _, _, _, _, _, _, rfl, _⟩ := h; rfl) | (obtain ⟨_, _, _, _, _, _, _, _, _, _, _, _, rfl, _⟩ := h; rfl) | (obtain ⟨_, _, _, _, _, _, _, _, _, _, _, _, _, rfl, _⟩ := h; rfl) | (obtain ⟨_, _, _, _, _, _, _, _, _, _, _, _, _, _, rfl, _⟩ := h; rfl) | (obtain ⟨_, _, _, _, _, _, _, _, _, _, _, _, _, _, _, rfl, _⟩ := h; rfl) | (obtain ⟨_, _, _, _, _, _, _, _, _, _, _, _, _, _, _, _, rfl, _⟩ := h; rfl) | (obtain ⟨_, _, _, _, _, _, _, _, _, _, _, _, _, _, _, _, _, rfl, _⟩ := h; rfl) | (obtain ⟨_, _, _, _, _, _, _, _, _, _, _, _, _, _, _, _, _, _, rfl, _⟩ := h; rfl) | (obtain ⟨_, _, _, _, _, _, _, _, _, _, _, _, _, _, _, _, _, _, _, rfl, _⟩ := h; rfl) | (obtain ⟨_, _, _, _, _, _, _, _, _, _, _, _, _, _, _, _, _, _, _, _, rfl, _⟩ := h; rfl) | (obtain ⟨_, _, _, _, _, _, _, _, _, _, _, _, _, _, _, _, _, _, _, _, _, rfl, _⟩ := h; rfl) | (obtain ⟨_, _, _, _, _, _, _, _, _, _, _, _, _, _, _, _, _, _, _, _, _, _, rfl, _⟩ := h; rfl) | (obtain ⟨_, _, _, _, _, _, _, _, _, _, _, _, _, _, _, _, _, _, _, _, _, _, _, rfl, _⟩ := h; rfl) | (obtain ⟨_, _, _, _, _, _, _, _, _, _, _, _, _, _, _, _, _, _, _, _, _, _, _, _, rfl, _⟩ := h; rfl) | (obtain ⟨_, _, _, _, _, _, _, _, _, _, _, _, _, _, _, _, _, _, _, _, _, _, _, _, _, rfl, _⟩ := h; rfl)) fun cdv A outer s H E hr tk => ⟨_, t__law_some_heads M (F__law_take M D) (by decide) (F__law_arity M D) (by decide) (F__law_end_head M D) (by decide) (F__law_pick M D) (by decide) (F__law_ground M D) (by decide) hr tk, fun v0 o ts K0 Z0 h => pl__law_some_heads  v0 o ts K0 Z0 h⟩
theorem F__law_tree (M : Md P w K mg base) (D : Ds K mg) : Fn1 P w K mg base 2 "_law_tree" ["heads"] (spP K (g__law_tree).pf) :=
  fn_PT (k := 1) D.d__law_tree sc__law_tree (fun ts K0 Z0 h => by first | (obtain ⟨rfl, _⟩ := h; rfl) | (obtain ⟨_, rfl, _⟩ := h; rfl) | (obtain ⟨_, _, rfl, _⟩ := h; rfl) | (obtain ⟨_, _, _, rfl, _⟩ := h; rfl) | (obtain ⟨_, _, _, _, rfl, _⟩ := h; rfl) | (obtain ⟨_, _, _, _, _, rfl, _⟩ := h; rfl) | (obtain ⟨_, _, _, _, _, _, rfl, _⟩ := h; rfl) | (obtain ⟨_, _, _, _, _, _, _, rfl, _⟩ := h; rfl) | (obtain ⟨_, _, _, _, _, _, _, _, rfl, _⟩ := h; rfl) | (obtain ⟨_, _, _, _, _, _, _, _, _, rfl, _⟩ := h; rfl) | (obtain ⟨_, _, _, _, _, _, _, _, _, _, rfl, _⟩ := h; rfl) | (obtain ⟨_, _, _, _, _, _, _, _, _, _, _, rfl, _⟩ := h; rfl) | (obtain ⟨_, _, _, _, _, _, _, _, _, _, _, _, rfl, _⟩ := h; rfl) | (obtain ⟨_, _, _, _, _, _, _, _, _, _, _, _, _, rfl, _⟩ := h; rfl) | (obtain ⟨_, _, _, _, _, _, _, _, _, _, _, _, _, _, rfl, _⟩ := h; rfl) | (obtain ⟨_, _, _, _, _, _, _, _, _, _, _, _, _, _, _, rfl, _⟩ := h; rfl) | (obtain ⟨_, _, _, _, _, _, _, _, _, _, _, _, _, _, _, _, rfl, _⟩ := h; rfl) | (obtain ⟨_, _, _, _, _, _, _, _, _, _, _, _, _, _, _, _, _, rfl, _⟩ := h; rfl) | (obtain ⟨_, _, _, _, _, _, _, _, _, _, _, _, _, _, _, _, _, _, rfl, _⟩ := h; rfl) | (obtain ⟨_, _, _, _, _, _, _, _, _, _, _, _, _, _, _, _, _, _, _, rfl, _⟩ := h; rfl) | (obtain ⟨_, _, _, _, _, _, _, _, _, _, _, _, _, _, _, _, _, _, _, _, rfl, _⟩ := h; rfl) | (obtain ⟨_, _, _, _, _, _, _, _, _, _, _, _, _, _, _, _, _, _, _, _, _, rfl, _⟩ := h; rfl) | (obtain ⟨_, _, _, _, _, _, _, _, _, _, _, _, _, _, _, _, _, _, _, _, _, _, rfl, _⟩ := h; rfl) | (obtain ⟨_, _, _, _, _, _, _, _, _, _, _, _, _, _, _, _, _, _, _, _, _, _, _, rfl, _⟩ := h; rfl) | (obtain ⟨_, _, _, _, _, _, _, _, _, _, _, _, _, _, _, _, _, _, _, _, _, _, _, _, rfl, _⟩ := h; rfl) | (obtain ⟨_, _, _, _, _, _, _, _, _, _, _, _, _, _, _, _, _, _, _, _, _, _, _, _, _, rfl, _⟩ := h; rfl)) fun cdv A outer s H E hr tk => ⟨_, t__law_tree M (F__law_arity M D) (by decide) hr tk, fun ts K0 Z0 h => pl__law_tree  ts K0 Z0 h⟩
theorem F__law_binder (M : Md P w K mg base) (D : Ds K mg) : Fn1 P w K mg base 1 "_law_binder" ["heads", "parents", "n"] (spP K (g__law_binder).pf) :=
  fn_PT (k := 0) D.d__law_binder sc__law_binder (fun ts K0 Z0 h => by first | (obtain ⟨rfl, _⟩ := h; rfl) | (obtain ⟨_, rfl, _⟩ := h; rfl) | (obtain ⟨_, _, rfl, _⟩ := h; rfl) | (obtain ⟨_, _, _, rfl, _⟩ := h; rfl) | (obtain ⟨_, _, _, _, rfl, _⟩ := h; rfl) | (obtain ⟨_, _, _, _, _, rfl, _⟩ := h; rfl) | (obtain ⟨_, _, _, _, _, _, rfl, _⟩ := h; rfl) | (obtain ⟨_, _, _, _, _, _, _, rfl, _⟩ := h; rfl) | (obtain ⟨_, _, _, _, _, _, _, _, rfl, _⟩ := h; rfl) | (obtain ⟨_, _, _, _, _, _, _, _, _, rfl, _⟩ := h; rfl) | (obtain ⟨_, _, _, _, _, _, _, _, _, _, rfl, _⟩ := h; rfl) | (obtain ⟨_, _, _, _, _, _, _, _, _, _, _, rfl, _⟩ := h; rfl) | (obtain ⟨_, _, _, _, _, _, _, _, _, _, _, _, rfl, _⟩ := h; rfl) | (obtain ⟨_, _, _, _, _, _, _, _, _, _, _, _, _, rfl, _⟩ := h; rfl) | (obtain ⟨_, _, _, _, _, _, _, _, _, _, _, _, _, _, rfl, _⟩ := h; rfl) | (obtain ⟨_, _, _, _, _, _, _, _, _, _, _, _, _, _, _, rfl, _⟩ := h; rfl) | (obtain ⟨_, _, _, _, _, _, _, _, _, _, _, _, _, _, _, _, rfl, _⟩ := h; rfl) | (obtain ⟨_, _, _, _, _, _, _, _, _, _, _, _, _, _, _, _, _, rfl, _⟩ := h; rfl) | (obtain ⟨_, _, _, _, _, _, _, _, _, _, _, _, _, _, _, _, _, _, rfl, _⟩ := h; rfl) | (obtain ⟨_, _, _, _, _, _, _, _, _, _, _, _, _, _, _, _, _, _, _, rfl, _⟩ := h; rfl) | (obtain ⟨_, _, _, _, _, _, _, _, _, _, _, _, _, _, _, _, _, _, _, _, rfl, _⟩ := h; rfl) | (obtain ⟨_, _, _, _, _, _, _, _, _, _, _, _, _, _, _, _, _, _, _, _, _, rfl, _⟩ := h; rfl) | (obtain ⟨_, _, _, _, _, _, _, _, _, _, _, _, _, _, _, _, _, _, _, _, _, _, rfl, _⟩ := h; rfl) | (obtain ⟨_, _, _, _, _, _, _, _, _, _, _, _, _, _, _, _, _, _, _, _, _, _, _, rfl, _⟩ := h; rfl) | (obtain ⟨_, _, _, _, _, _, _, _, _, _, _, _, _, _, _, _, _, _, _, _, _, _, _, _, rfl, _⟩ := h; rfl) | (obtain ⟨_, _, _, _, _, _, _, _, _, _, _, _, _, _, _, _, _, _, _, _, _, _, _, _, _, rfl, _⟩ := h; rfl)) fun cdv A outer s H E hr tk => ⟨_, t__law_binder M  hr tk, fun ts K0 Z0 h => pl__law_binder  ts K0 Z0 h⟩
theorem F__law_chain (M : Md P w K mg base) (D : Ds K mg) : Fn1 P w K mg base 4 "_law_chain" ["store", "x", "levels", "nodes"] (spI K (g__law_chain).pf) :=
  fn_IT (k := 3) D.d__law_chain sc__law_chain (fun o ts K0 Z0 h => by first | (obtain ⟨rfl, _⟩ := h; rfl) | (obtain ⟨_, rfl, _⟩ := h; rfl) | (obtain ⟨_, _, rfl, _⟩ := h; rfl) | (obtain ⟨_, _, _, rfl, _⟩ := h; rfl) | (obtain ⟨_, _, _, _, rfl, _⟩ := h; rfl) | (obtain ⟨_, _, _, _, _, rfl, _⟩ := h; rfl) | (obtain ⟨_, _, _, _, _, _, rfl, _⟩ := h; rfl) | (obtain ⟨_, _, _, _, _, _, _, rfl, _⟩ := h; rfl) | (obtain ⟨_, _, _, _, _, _, _, _, rfl, _⟩ := h; rfl) | (obtain ⟨_, _, _, _, _, _, _, _, _, rfl, _⟩ := h; rfl) | (obtain ⟨_, _, _, _, _, _, _, _, _, _, rfl, _⟩ := h; rfl) | (obtain ⟨_, _, _, _, _, _, _, _, _, _, _, rfl, _⟩ := h; rfl) | (obtain ⟨_, _, _, _, _, _, _, _, _, _, _, _, rfl, _⟩ := h; rfl) | (obtain ⟨_, _, _, _, _, _, _, _, _, _, _, _, _, rfl, _⟩ := h; rfl) | (obtain ⟨_, _, _, _, _, _, _, _, _, _, _, _, _, _, rfl, _⟩ := h; rfl) | (obtain ⟨_, _, _, _, _, _, _, _, _, _, _, _, _, _, _, rfl, _⟩ := h; rfl) | (obtain ⟨_, _, _, _, _, _, _, _, _, _, _, _, _, _, _, _, rfl, _⟩ := h; rfl) | (obtain ⟨_, _, _, _, _, _, _, _, _, _, _, _, _, _, _, _, _, rfl, _⟩ := h; rfl) | (obtain ⟨_, _, _, _, _, _, _, _, _, _, _, _, _, _, _, _, _, _, rfl, _⟩ := h; rfl) | (obtain ⟨_, _, _, _, _, _, _, _, _, _, _, _, _, _, _, _, _, _, _, rfl, _⟩ := h; rfl) | (obtain ⟨_, _, _, _, _, _, _, _, _, _, _, _, _, _, _, _, _, _, _, _, rfl, _⟩ := h; rfl) | (obtain ⟨_, _, _, _, _, _, _, _, _, _, _, _, _, _, _, _, _, _, _, _, _, rfl, _⟩ := h; rfl) | (obtain ⟨_, _, _, _, _, _, _, _, _, _, _, _, _, _, _, _, _, _, _, _, _, _, rfl, _⟩ := h; rfl) | (obtain ⟨_, _, _, _, _, _, _, _, _, _, _, _, _, _, _, _, _, _, _, _, _, _, _, rfl, _⟩ := h; rfl) | (obtain ⟨_, _, _, _, _, _, _, _, _, _, _, _, _, _, _, _, _, _, _, _, _, _, _, _, rfl, _⟩ := h; rfl) | (obtain ⟨_, _, _, _, _, _, _, _, _, _, _, _, _, _, _, _, _, _, _, _, _, _, _, _, _, rfl, _⟩ := h; rfl)) fun cdv A outer s H E hr tk => ⟨_, t__law_chain M (F__law_pick M D) (by decide) hr tk, fun v0 o ts K0 Z0 h => pl__law_chain  v0 o ts K0 Z0 h⟩
theorem F__law_closed (M : Md P w K mg base) (D : Ds K mg) : Fn1 P w K mg base 3 "_law_closed" ["heads"] (spP K (g__law_closed).pf) :=
  fn_PT (k := 2) D.d__law_closed sc__law_closed (fun ts K0 Z0 h => by first | (obtain ⟨rfl, _⟩ := h; rfl) | (obtain ⟨_, rfl, _⟩ := h; rfl) | (obtain ⟨_, _, rfl, _⟩ := h; rfl) | (obtain ⟨_, _, _, rfl, _⟩ := h; rfl) | (obtain ⟨_, _, _, _, rfl, _⟩ := h; rfl) | (obtain ⟨_, _, _, _, _, rfl, _⟩ := h; rfl) | (obtain ⟨_, _, _, _, _, _, rfl, _⟩ := h; rfl) | (obtain ⟨_, _, _, _, _, _, _, rfl, _⟩ := h; rfl) | (obtain ⟨_, _, _, _, _, _, _, _, rfl, _⟩ := h; rfl) | (obtain ⟨_, _, _, _, _, _, _, _, _, rfl, _⟩ := h; rfl) | (obtain ⟨_, _, _, _, _, _, _, _, _, _, rfl, _⟩ := h; rfl) | (obtain ⟨_, _, _, _, _, _, _, _, _, _, _, rfl, _⟩ := h; rfl) | (obtain ⟨_, _, _, _, _, _, _, _, _, _, _, _, rfl, _⟩ := h; rfl) | (obtain ⟨_, _, _, _, _, _, _, _, _, _, _, _, _, rfl, _⟩ := h; rfl) | (obtain ⟨_, _, _, _, _, _, _, _, _, _, _, _, _, _, rfl, _⟩ := h; rfl) | (obtain ⟨_, _, _, _, _, _, _, _, _, _, _, _, _, _, _, rfl, _⟩ := h; rfl) | (obtain ⟨_, _, _, _, _, _, _, _, _, _, _, _, _, _, _, _, rfl, _⟩ := h; rfl) | (obtain ⟨_, _, _, _, _, _, _, _, _, _, _, _, _, _, _, _, _, rfl, _⟩ := h; rfl) | (obtain ⟨_, _, _, _, _, _, _, _, _, _, _, _, _, _, _, _, _, _, rfl, _⟩ := h; rfl) | (obtain ⟨_, _, _, _, _, _, _, _, _, _, _, _, _, _, _, _, _, _, _, rfl, _⟩ := h; rfl) | (obtain ⟨_, _, _, _, _, _, _, _, _, _, _, _, _, _, _, _, _, _, _, _, rfl, _⟩ := h; rfl) | (obtain ⟨_, _, _, _, _, _, _, _, _, _, _, _, _, _, _, _, _, _, _, _, _, rfl, _⟩ := h; rfl) | (obtain ⟨_, _, _, _, _, _, _, _, _, _, _, _, _, _, _, _, _, _, _, _, _, _, rfl, _⟩ := h; rfl) | (obtain ⟨_, _, _, _, _, _, _, _, _, _, _, _, _, _, _, _, _, _, _, _, _, _, _, rfl, _⟩ := h; rfl) | (obtain ⟨_, _, _, _, _, _, _, _, _, _, _, _, _, _, _, _, _, _, _, _, _, _, _, _, rfl, _⟩ := h; rfl) | (obtain ⟨_, _, _, _, _, _, _, _, _, _, _, _, _, _, _, _, _, _, _, _, _, _, _, _, _, rfl, _⟩ := h; rfl)) fun cdv A outer s H E hr tk => ⟨_, t__law_closed M (F__law_tree M D) (by decide) (F__law_binder M D) (by decide) hr tk, fun ts K0 Z0 h => pl__law_closed  ts K0 Z0 h⟩
theorem F__law_reduct (M : Md P w K mg base) (D : Ds K mg) : Fn1 P w K mg base 4 "_law_reduct" ["heads", "tree", "n"] (spP K (g__law_reduct).pf) :=
  fn_PT (k := 3) D.d__law_reduct sc__law_reduct (fun ts K0 Z0 h => by first | (obtain ⟨rfl, _⟩ := h; rfl) | (obtain ⟨_, rfl, _⟩ := h; rfl) | (obtain ⟨_, _, rfl, _⟩ := h; rfl) | (obtain ⟨_, _, _, rfl, _⟩ := h; rfl) | (obtain ⟨_, _, _, _, rfl, _⟩ := h; rfl) | (obtain ⟨_, _, _, _, _, rfl, _⟩ := h; rfl) | (obtain ⟨_, _, _, _, _, _, rfl, _⟩ := h; rfl) | (obtain ⟨_, _, _, _, _, _, _, rfl, _⟩ := h; rfl) | (obtain ⟨_, _, _, _, _, _, _, _, rfl, _⟩ := h; rfl) | (obtain ⟨_, _, _, _, _, _, _, _, _, rfl, _⟩ := h; rfl) | (obtain ⟨_, _, _, _, _, _, _, _, _, _, rfl, _⟩ := h; rfl) | (obtain ⟨_, _, _, _, _, _, _, _, _, _, _, rfl, _⟩ := h; rfl) | (obtain ⟨_, _, _, _, _, _, _, _, _, _, _, _, rfl, _⟩ := h; rfl) | (obtain ⟨_, _, _, _, _, _, _, _, _, _, _, _, _, rfl, _⟩ := h; rfl) | (obtain ⟨_, _, _, _, _, _, _, _, _, _, _, _, _, _, rfl, _⟩ := h; rfl) | (obtain ⟨_, _, _, _, _, _, _, _, _, _, _, _, _, _, _, rfl, _⟩ := h; rfl) | (obtain ⟨_, _, _, _, _, _, _, _, _, _, _, _, _, _, _, _, rfl, _⟩ := h; rfl) | (obtain ⟨_, _, _, _, _, _, _, _, _, _, _, _, _, _, _, _, _, rfl, _⟩ := h; rfl) | (obtain ⟨_, _, _, _, _, _, _, _, _, _, _, _, _, _, _, _, _, _, rfl, _⟩ := h; rfl) | (obtain ⟨_, _, _, _, _, _, _, _, _, _, _, _, _, _, _, _, _, _, _, rfl, _⟩ := h; rfl) | (obtain ⟨_, _, _, _, _, _, _, _, _, _, _, _, _, _, _, _, _, _, _, _, rfl, _⟩ := h; rfl) | (obtain ⟨_, _, _, _, _, _, _, _, _, _, _, _, _, _, _, _, _, _, _, _, _, rfl, _⟩ := h; rfl) | (obtain ⟨_, _, _, _, _, _, _, _, _, _, _, _, _, _, _, _, _, _, _, _, _, _, rfl, _⟩ := h; rfl) | (obtain ⟨_, _, _, _, _, _, _, _, _, _, _, _, _, _, _, _, _, _, _, _, _, _, _, rfl, _⟩ := h; rfl) | (obtain ⟨_, _, _, _, _, _, _, _, _, _, _, _, _, _, _, _, _, _, _, _, _, _, _, _, rfl, _⟩ := h; rfl) | (obtain ⟨_, _, _, _, _, _, _, _, _, _, _, _, _, _, _, _, _, _, _, _, _, _, _, _, _, rfl, _⟩ := h; rfl)) fun cdv A outer s H E hr tk => ⟨_, t__law_reduct M (F__law_closed M D) (by decide) (F__law_binder M D) (by decide) hr tk, fun ts K0 Z0 h => pl__law_reduct  ts K0 Z0 h⟩
theorem F__law_wrapped (M : Md P w K mg base) (D : Ds K mg) : Fn1 P w K mg base 8 "_law_wrapped" ["store", "heads", "names", "words"] (spI K (g__law_wrapped).pf) :=
  fn_IT (k := 7) D.d__law_wrapped sc__law_wrapped (fun o ts K0 Z0 h => by first | (obtain ⟨rfl, _⟩ := h; rfl) | (obtain ⟨_, rfl, _⟩ := h; rfl) | (obtain ⟨_, _, rfl, _⟩ := h; rfl) | (obtain ⟨_, _, _, rfl, _⟩ := h; rfl) | (obtain ⟨_, _, _, _, rfl, _⟩ := h; rfl) | (obtain ⟨_, _, _, _, _, rfl, _⟩ := h; rfl) | (obtain ⟨_, _, _, _, _, _, rfl, _⟩ := h; rfl) | (obtain ⟨_, _, _, _, _, _, _, rfl, _⟩ := h; rfl) | (obtain ⟨_, _, _, _, _, _, _, _, rfl, _⟩ := h; rfl) | (obtain ⟨_, _, _, _, _, _, _, _, _, rfl, _⟩ := h; rfl) | (obtain ⟨_, _, _, _, _, _, _, _, _, _, rfl, _⟩ := h; rfl) | (obtain ⟨_, _, _, _, _, _, _, _, _, _, _, rfl, _⟩ := h; rfl) | (obtain ⟨_, _, _, _, _, _, _, _, _, _, _, _, rfl, _⟩ := h; rfl) | (obtain ⟨_, _, _, _, _, _, _, _, _, _, _, _, _, rfl, _⟩ := h; rfl) | (obtain ⟨_, _, _, _, _, _, _, _, _, _, _, _, _, _, rfl, _⟩ := h; rfl) | (obtain ⟨_, _, _, _, _, _, _, _, _, _, _, _, _, _, _, rfl, _⟩ := h; rfl) | (obtain ⟨_, _, _, _, _, _, _, _, _, _, _, _, _, _, _, _, rfl, _⟩ := h; rfl) | (obtain ⟨_, _, _, _, _, _, _, _, _, _, _, _, _, _, _, _, _, rfl, _⟩ := h; rfl) | (obtain ⟨_, _, _, _, _, _, _, _, _, _, _, _, _, _, _, _, _, _, rfl, _⟩ := h; rfl) | (obtain ⟨_, _, _, _, _, _, _, _, _, _, _, _, _, _, _, _, _, _, _, rfl, _⟩ := h; rfl) | (obtain ⟨_, _, _, _, _, _, _, _, _, _, _, _, _, _, _, _, _, _, _, _, rfl, _⟩ := h; rfl) | (obtain ⟨_, _, _, _, _, _, _, _, _, _, _, _, _, _, _, _, _, _, _, _, _, rfl, _⟩ := h; rfl) | (obtain ⟨_, _, _, _, _, _, _, _, _, _, _, _, _, _, _, _, _, _, _, _, _, _, rfl, _⟩ := h; rfl) | (obtain ⟨_, _, _, _, _, _, _, _, _, _, _, _, _, _, _, _, _, _, _, _, _, _, _, rfl, _⟩ := h; rfl) | (obtain ⟨_, _, _, _, _, _, _, _, _, _, _, _, _, _, _, _, _, _, _, _, _, _, _, _, rfl, _⟩ := h; rfl) | (obtain ⟨_, _, _, _, _, _, _, _, _, _, _, _, _, _, _, _, _, _, _, _, _, _, _, _, _, rfl, _⟩ := h; rfl)) fun cdv A outer s H E hr tk => ⟨_, t__law_wrapped M (F__law_take M D) (by decide) (F__law_tree M D) (by decide) (F__law_some_heads M D) (by decide) (F__law_pick M D) (by decide) hr tk, fun v0 o ts K0 Z0 h => pl__law_wrapped  v0 o ts K0 Z0 h⟩
theorem F__law_bound_heads (M : Md P w K mg base) (D : Ds K mg) : Fn1 P w K mg base 5 "_law_bound_heads" ["store", "x"] (spI K (g__law_bound_heads).pf) :=
  fn_IT (k := 4) D.d__law_bound_heads sc__law_bound_heads (fun o ts K0 Z0 h => by first | (obtain ⟨rfl, _⟩ := h; rfl) | (obtain ⟨_, rfl, _⟩ := h; rfl) | (obtain ⟨_, _, rfl, _⟩ := h; rfl) | (obtain ⟨_, _, _, rfl, _⟩ := h; rfl) | (obtain ⟨_, _, _, _, rfl, _⟩ := h; rfl) | (obtain ⟨_, _, _, _, _, rfl, _⟩ := h; rfl) | (obtain ⟨_, _, _, _, _, _, rfl, _⟩ := h; rfl) | (obtain ⟨_, _, _, _, _, _, _, rfl, _⟩ := h; rfl) | (obtain ⟨_, _, _, _, _, _, _, _, rfl, _⟩ := h; rfl) | (obtain ⟨_, _, _, _, _, _, _, _, _, rfl, _⟩ := h; rfl) | (obtain ⟨_, _, _, _, _, _, _, _, _, _, rfl, _⟩ := h; rfl) | (obtain ⟨_, _, _, _, _, _, _, _, _, _, _, rfl, _⟩ := h; rfl) | (obtain ⟨_, _, _, _, _, _, _, _, _, _, _, _, rfl, _⟩ := h; rfl) | (obtain ⟨_, _, _, _, _, _, _, _, _, _, _, _, _, rfl, _⟩ := h; rfl) | (obtain ⟨_, _, _, _, _, _, _, _, _, _, _, _, _, _, rfl, _⟩ := h; rfl) | (obtain ⟨_, _, _, _, _, _, _, _, _, _, _, _, _, _, _, rfl, _⟩ := h; rfl) | (obtain ⟨_, _, _, _, _, _, _, _, _, _, _, _, _, _, _, _, rfl, _⟩ := h; rfl) | (obtain ⟨_, _, _, _, _, _, _, _, _, _, _, _, _, _, _, _, _, rfl, _⟩ := h; rfl) | (obtain ⟨_, _, _, _, _, _, _, _, _, _, _, _, _, _, _, _, _, _, rfl, _⟩ := h; rfl) | (obtain ⟨_, _, _, _, _, _, _, _, _, _, _, _, _, _, _, _, _, _, _, rfl, _⟩ := h; rfl) | (obtain ⟨_, _, _, _, _, _, _, _, _, _, _, _, _, _, _, _, _, _, _, _, rfl, _⟩ := h; rfl) | (obtain ⟨_, _, _, _, _, _, _, _, _, _, _, _, _, _, _, _, _, _, _, _, _, rfl, _⟩ := h; rfl) | (obtain ⟨_, _, _, _, _, _, _, _, _, _, _, _, _, _, _, _, _, _, _, _, _, _, rfl, _⟩ := h; rfl) | (obtain ⟨_, _, _, _, _, _, _, _, _, _, _, _, _, _, _, _, _, _, _, _, _, _, _, rfl, _⟩ := h; rfl) | (obtain ⟨_, _, _, _, _, _, _, _, _, _, _, _, _, _, _, _, _, _, _, _, _, _, _, _, rfl, _⟩ := h; rfl) | (obtain ⟨_, _, _, _, _, _, _, _, _, _, _, _, _, _, _, _, _, _, _, _, _, _, _, _, _, rfl, _⟩ := h; rfl)) fun cdv A outer s H E hr tk => ⟨_, t__law_bound_heads M (F__law_take M D) (by decide) (F__law_chain M D) (by decide) hr tk, fun v0 o ts K0 Z0 h => pl__law_bound_heads  v0 o ts K0 Z0 h⟩
theorem F__law_told (M : Md P w K mg base) (D : Ds K mg) : Fn1 P w K mg base 156 "_law_told" ["term", "node"] (spP K (g__law_told dd).pf) :=
  fn_PT (k := 155) D.d__law_told sc__law_told (fun ts K0 Z0 h => by first | (obtain ⟨rfl, _⟩ := h; rfl) | (obtain ⟨_, rfl, _⟩ := h; rfl) | (obtain ⟨_, _, rfl, _⟩ := h; rfl) | (obtain ⟨_, _, _, rfl, _⟩ := h; rfl) | (obtain ⟨_, _, _, _, rfl, _⟩ := h; rfl) | (obtain ⟨_, _, _, _, _, rfl, _⟩ := h; rfl) | (obtain ⟨_, _, _, _, _, _, rfl, _⟩ := h; rfl) | (obtain ⟨_, _, _, _, _, _, _, rfl, _⟩ := h; rfl) | (obtain ⟨_, _, _, _, _, _, _, _, rfl, _⟩ := h; rfl) | (obtain ⟨_, _, _, _, _, _, _, _, _, rfl, _⟩ := h; rfl) | (obtain ⟨_, _, _, _, _, _, _, _, _, _, rfl, _⟩ := h; rfl) | (obtain ⟨_, _, _, _, _, _, _, _, _, _, _, rfl, _⟩ := h; rfl) | (obtain ⟨_, _, _, _, _, _, _, _, _, _, _, _, rfl, _⟩ := h; rfl) | (obtain ⟨_, _, _, _, _, _, _, _, _, _, _, _, _, rfl, _⟩ := h; rfl) | (obtain ⟨_, _, _, _, _, _, _, _, _, _, _, _, _, _, rfl, _⟩ := h; rfl) | (obtain ⟨_, _, _, _, _, _, _, _, _, _, _, _, _, _, _, rfl, _⟩ := h; rfl) | (obtain ⟨_, _, _, _, _, _, _, _, _, _, _, _, _, _, _, _, rfl, _⟩ := h; rfl) | (obtain ⟨_, _, _, _, _, _, _, _, _, _, _, _, _, _, _, _, _, rfl, _⟩ := h; rfl) | (obtain ⟨_, _, _, _, _, _, _, _, _, _, _, _, _, _, _, _, _, _, rfl, _⟩ := h; rfl) | (obtain ⟨_, _, _, _, _, _, _, _, _, _, _, _, _, _, _, _, _, _, _, rfl, _⟩ := h; rfl) | (obtain ⟨_, _, _, _, _, _, _, _, _, _, _, _, _, _, _, _, _, _, _, _, rfl, _⟩ := h; rfl) | (obtain ⟨_, _, _, _, _, _, _, _, _, _, _, _, _, _, _, _, _, _, _, _, _, rfl, _⟩ := h; rfl) | (obtain ⟨_, _, _, _, _, _, _, _, _, _, _, _, _, _, _, _, _, _, _, _, _, _, rfl, _⟩ := h; rfl) | (obtain ⟨_, _, _, _, _, _, _, _, _, _, _, _, _, _, _, _, _, _, _, _, _, _, _, rfl, _⟩ := h; rfl) | (obtain ⟨_, _, _, _, _, _, _, _, _, _, _, _, _, _, _, _, _, _, _, _, _, _, _, _, rfl, _⟩ := h; rfl) | (obtain ⟨_, _, _, _, _, _, _, _, _, _, _, _, _, _, _, _, _, _, _, _, _, _, _, _, _, rfl, _⟩ := h; rfl)) fun cdv A outer s H E hr tk => ⟨_, t__law_told M (F_reduced_at M D) (by decide) hr tk, fun ts K0 Z0 h => pl__law_told (He.ga K) dd (csK K clsN) (tstK K) (kitK K) (kitVK K) D.kx.e5 D.kx.e6 D.kx.e7 ts K0 Z0 h⟩
theorem F__law_due (M : Md P w K mg base) (D : Ds K mg) : Fn1 P w K mg base 3 "_law_due" ["heads", "ends", "n", "reduct"] (spP K (g__law_due).pf) :=
  fn_PT (k := 2) D.d__law_due sc__law_due (fun ts K0 Z0 h => by first | (obtain ⟨rfl, _⟩ := h; rfl) | (obtain ⟨_, rfl, _⟩ := h; rfl) | (obtain ⟨_, _, rfl, _⟩ := h; rfl) | (obtain ⟨_, _, _, rfl, _⟩ := h; rfl) | (obtain ⟨_, _, _, _, rfl, _⟩ := h; rfl) | (obtain ⟨_, _, _, _, _, rfl, _⟩ := h; rfl) | (obtain ⟨_, _, _, _, _, _, rfl, _⟩ := h; rfl) | (obtain ⟨_, _, _, _, _, _, _, rfl, _⟩ := h; rfl) | (obtain ⟨_, _, _, _, _, _, _, _, rfl, _⟩ := h; rfl) | (obtain ⟨_, _, _, _, _, _, _, _, _, rfl, _⟩ := h; rfl) | (obtain ⟨_, _, _, _, _, _, _, _, _, _, rfl, _⟩ := h; rfl) | (obtain ⟨_, _, _, _, _, _, _, _, _, _, _, rfl, _⟩ := h; rfl) | (obtain ⟨_, _, _, _, _, _, _, _, _, _, _, _, rfl, _⟩ := h; rfl) | (obtain ⟨_, _, _, _, _, _, _, _, _, _, _, _, _, rfl, _⟩ := h; rfl) | (obtain ⟨_, _, _, _, _, _, _, _, _, _, _, _, _, _, rfl, _⟩ := h; rfl) | (obtain ⟨_, _, _, _, _, _, _, _, _, _, _, _, _, _, _, rfl, _⟩ := h; rfl) | (obtain ⟨_, _, _, _, _, _, _, _, _, _, _, _, _, _, _, _, rfl, _⟩ := h; rfl) | (obtain ⟨_, _, _, _, _, _, _, _, _, _, _, _, _, _, _, _, _, rfl, _⟩ := h; rfl) | (obtain ⟨_, _, _, _, _, _, _, _, _, _, _, _, _, _, _, _, _, _, rfl, _⟩ := h; rfl) | (obtain ⟨_, _, _, _, _, _, _, _, _, _, _, _, _, _, _, _, _, _, _, rfl, _⟩ := h; rfl) | (obtain ⟨_, _, _, _, _, _, _, _, _, _, _, _, _, _, _, _, _, _, _, _, rfl, _⟩ := h; rfl) | (obtain ⟨_, _, _, _, _, _, _, _, _, _, _, _, _, _, _, _, _, _, _, _, _, rfl, _⟩ := h; rfl) | (obtain ⟨_, _, _, _, _, _, _, _, _, _, _, _, _, _, _, _, _, _, _, _, _, _, rfl, _⟩ := h; rfl) | (obtain ⟨_, _, _, _, _, _, _, _, _, _, _, _, _, _, _, _, _, _, _, _, _, _, _, rfl, _⟩ := h; rfl) | (obtain ⟨_, _, _, _, _, _, _, _, _, _, _, _, _, _, _, _, _, _, _, _, _, _, _, _, rfl, _⟩ := h; rfl) | (obtain ⟨_, _, _, _, _, _, _, _, _, _, _, _, _, _, _, _, _, _, _, _, _, _, _, _, _, rfl, _⟩ := h; rfl)) fun cdv A outer s H E hr tk => ⟨_, t__law_due M (F__law_tree M D) (by decide) (F__law_term M D) (by decide) hr tk, fun ts K0 Z0 h => pl__law_due  ts K0 Z0 h⟩
theorem ok_law {fd : FuncData} (M : Md P w K mg base) (D : Ds K mg) (fD : FunD K "law" "law" (defArgs f_law) (defBody f_law) (defScope f_law) [] [] (He.ga K "law") fd) : FnOk P w K mg base (L2N.CX P w) 157 (He.ga K "law") fd ["script"] (spP K (g_law).pf) :=
  fnok_PT (k := 156) fD sc_law (fun ts K0 Z0 h => by first | (obtain ⟨rfl, _⟩ := h; rfl) | (obtain ⟨_, rfl, _⟩ := h; rfl) | (obtain ⟨_, _, rfl, _⟩ := h; rfl) | (obtain ⟨_, _, _, rfl, _⟩ := h; rfl) | (obtain ⟨_, _, _, _, rfl, _⟩ := h; rfl) | (obtain ⟨_, _, _, _, _, rfl, _⟩ := h; rfl) | (obtain ⟨_, _, _, _, _, _, rfl, _⟩ := h; rfl) | (obtain ⟨_, _, _, _, _, _, _, rfl, _⟩ := h; rfl) | (obtain ⟨_, _, _, _, _, _, _, _, rfl, _⟩ := h; rfl) | (obtain ⟨_, _, _, _, _, _, _, _, _, rfl, _⟩ := h; rfl) | (obtain ⟨_, _, _, _, _, _, _, _, _, _, rfl, _⟩ := h; rfl) | (obtain ⟨_, _, _, _, _, _, _, _, _, _, _, rfl, _⟩ := h; rfl) | (obtain ⟨_, _, _, _, _, _, _, _, _, _, _, _, rfl, _⟩ := h; rfl) | (obtain ⟨_, _, _, _, _, _, _, _, _, _, _, _, _, rfl, _⟩ := h; rfl) | (obtain ⟨_, _, _, _, _, _, _, _, _, _, _, _, _, _, rfl, _⟩ := h; rfl) | (obtain ⟨_, _, _, _, _, _, _, _, _, _, _, _, _, _, _, rfl, _⟩ := h; rfl) | (obtain ⟨_, _, _, _, _, _, _, _, _, _, _, _, _, _, _, _, rfl, _⟩ := h; rfl) | (obtain ⟨_, _, _, _, _, _, _, _, _, _, _, _, _, _, _, _, _, rfl, _⟩ := h; rfl) | (obtain ⟨_, _, _, _, _, _, _, _, _, _, _, _, _, _, _, _, _, _, rfl, _⟩ := h; rfl) | (obtain ⟨_, _, _, _, _, _, _, _, _, _, _, _, _, _, _, _, _, _, _, rfl, _⟩ := h; rfl) | (obtain ⟨_, _, _, _, _, _, _, _, _, _, _, _, _, _, _, _, _, _, _, _, rfl, _⟩ := h; rfl) | (obtain ⟨_, _, _, _, _, _, _, _, _, _, _, _, _, _, _, _, _, _, _, _, _, rfl, _⟩ := h; rfl) | (obtain ⟨_, _, _, _, _, _, _, _, _, _, _, _, _, _, _, _, _, _, _, _, _, _, rfl, _⟩ := h; rfl) | (obtain ⟨_, _, _, _, _, _, _, _, _, _, _, _, _, _, _, _, _, _, _, _, _, _, _, rfl, _⟩ := h; rfl) | (obtain ⟨_, _, _, _, _, _, _, _, _, _, _, _, _, _, _, _, _, _, _, _, _, _, _, _, rfl, _⟩ := h; rfl) | (obtain ⟨_, _, _, _, _, _, _, _, _, _, _, _, _, _, _, _, _, _, _, _, _, _, _, _, _, rfl, _⟩ := h; rfl)) fun cdv A outer s H E hr tk => ⟨_, t_law M (F__law_store M D) (by decide) (F__law_letters M D) (by decide) (F__law_take M D) (by decide) (F__law_bound_heads M D) (by decide) (F__law_amount M D) (by decide) (F__law_some_heads M D) (by decide) (F__law_wrapped M D) (by decide) (F__law_tree M D) (by decide) (F__law_term M D) (by decide) (F__law_reduct M D) (by decide) (F__law_due M D) (by decide) (F_redexes M D) (by decide) (F__law_same M D) (by decide) (F__law_told M D) (by decide) hr tk, fun ts K0 Z0 h => pl_law dd (Nat.le_refl _) ts K0 Z0 h⟩
end
end Rd
end TL

set_option maxHeartbeats 4000000
/-! the law joined with its head -/
namespace TL
open PySem PySem.Spec PyProof.Rows L2
namespace Rd
section
variable {w : World} {K : PySem.W.Frag} {mg : Str → Option Value} {h h0 : Heap}
theorem ex_c (c : _root_.Hd.ex K = true) : ∀ n ∈ clsN, exB fldN K n = true := fun n hn => List.all_eq_true.mp (andB c).1 n hn
theorem ex_k (c : _root_.Hd.ex K = true) : ∀ n ∈ _root_.Hd.kitL, kitC clsN K n = true := fun n hn => List.all_eq_true.mp (andB (andB (andB c).2).1).1 n hn
theorem ex_t0 (c : _root_.Hd.ex K = true) : tabB kvs_LAYOUT "LAYOUT" K = true := (andB (andB c).2).2
theorem ds_of (X : K.In h) (G : h.Ns mainGlobals mg) (c : He.SaysX _root_.Hd.fa _root_.Hd.fn _root_.Hd.ts [] _root_.Hd.ex w h0 K) : Ds K mg where
  d_parts_of := ⟨He.glo_ok X G (c.t.d.fact 16 (f := .glo "parts_of") rfl), let ⟨fd, F⟩ := c.t.d.def_ 15 (d := _root_.Hd.d_parts_of) rfl; ⟨fd, F, FunD.bindsN (ps := ["term"]) F fun _ _ _ _ _ _ us hl => match us, hl with | [_], _ => rfl⟩⟩
  d_rebuilt := ⟨He.glo_ok X G (c.t.d.fact 17 (f := .glo "rebuilt") rfl), let ⟨fd, F⟩ := c.t.d.def_ 16 (d := _root_.Hd.d_rebuilt) rfl; ⟨fd, F, FunD.bindsN (ps := ["term", "parts"]) F fun _ _ _ _ _ _ us hl => match us, hl with | [_, _], _ => rfl⟩⟩
  d_walk := ⟨He.glo_ok X G (c.t.d.fact 18 (f := .glo "walk") rfl), let ⟨fd, F⟩ := c.t.d.def_ 17 (d := _root_.Hd.d_walk) rfl; ⟨fd, F, FunD.bindsN (ps := ["term"]) F fun _ _ _ _ _ _ us hl => match us, hl with | [_], _ => rfl⟩⟩
  d_binder_in := ⟨He.glo_ok X G (c.t.d.fact 19 (f := .glo "binder_in") rfl), let ⟨fd, F⟩ := c.t.d.def_ 18 (d := _root_.Hd.d_binder_in) rfl; ⟨fd, F, FunD.bindsN (ps := ["scope", "name"]) F fun _ _ _ _ _ _ us hl => match us, hl with | [_, _], _ => rfl⟩⟩
  d_is_free := ⟨He.glo_ok X G (c.t.d.fact 20 (f := .glo "is_free") rfl), let ⟨fd, F⟩ := c.t.d.def_ 19 (d := _root_.Hd.d_is_free) rfl; ⟨fd, F, FunD.bindsN (ps := ["row"]) F fun _ _ _ _ _ _ us hl => match us, hl with | [_], _ => rfl⟩⟩
  d_first_free := ⟨He.glo_ok X G (c.t.d.fact 21 (f := .glo "first_free") rfl), let ⟨fd, F⟩ := c.t.d.def_ 20 (d := _root_.Hd.d_first_free) rfl; ⟨fd, F, FunD.bindsN (ps := ["term"]) F fun _ _ _ _ _ _ us hl => match us, hl with | [_], _ => rfl⟩⟩
  d_measure := ⟨He.glo_ok X G (c.t.d.fact 22 (f := .glo "measure") rfl), let ⟨fd, F⟩ := c.t.d.def_ 21 (d := _root_.Hd.d_measure) rfl; ⟨fd, F, FunD.bindsN (ps := ["rows"]) F fun _ _ _ _ _ _ us hl => match us, hl with | [_], _ => rfl⟩⟩
  d_swap_measure := ⟨He.glo_ok X G (c.t.d.fact 23 (f := .glo "swap_measure") rfl), let ⟨fd, F⟩ := c.t.d.def_ 22 (d := _root_.Hd.d_swap_measure) rfl; ⟨fd, F, FunD.bindsN (ps := ["term", "name", "closed"]) F fun _ _ _ _ _ _ us hl => match us, hl with | [_, _, _], _ => rfl⟩⟩
  d_swapped := ⟨He.glo_ok X G (c.t.d.fact 24 (f := .glo "swapped") rfl), let ⟨fd, F⟩ := c.t.d.def_ 23 (d := _root_.Hd.d_swapped) rfl; ⟨fd, F, FunD.bindsN (ps := ["term", "name", "closed"]) F fun _ _ _ _ _ _ us hl => match us, hl with | [_, _, _], _ => rfl⟩⟩
  d_refuse_great := ⟨He.glo_ok X G (c.t.d.fact 25 (f := .glo "refuse_great") rfl), let ⟨fd, F⟩ := c.t.d.def_ 24 (d := _root_.Hd.d_refuse_great) rfl; ⟨fd, F, FunD.bindsN (ps := ["deep", "size"]) F fun _ _ _ _ _ _ us hl => match us, hl with | [_, _], _ => rfl⟩⟩
  d_child_slots := ⟨He.glo_ok X G (c.t.d.fact 26 (f := .glo "child_slots") rfl), let ⟨fd, F⟩ := c.t.d.def_ 25 (d := _root_.Hd.d_child_slots) rfl; ⟨fd, F, FunD.bindsN (ps := ["term"]) F fun _ _ _ _ _ _ us hl => match us, hl with | [_], _ => rfl⟩⟩
  d_node_rows := ⟨He.glo_ok X G (c.t.d.fact 27 (f := .glo "node_rows") rfl), let ⟨fd, F⟩ := c.t.d.def_ 26 (d := _root_.Hd.d_node_rows) rfl; ⟨fd, F, FunD.bindsN (ps := ["term"]) F fun _ _ _ _ _ _ us hl => match us, hl with | [_], _ => rfl⟩⟩
  d_rows_with := ⟨He.glo_ok X G (c.t.d.fact 28 (f := .glo "rows_with") rfl), let ⟨fd, F⟩ := c.t.d.def_ 27 (d := _root_.Hd.d_rows_with) rfl; ⟨fd, F, FunD.bindsN (ps := ["term", "node"]) F fun _ _ _ _ _ _ us hl => match us, hl with | [_, _], _ => rfl⟩⟩
  d_node_count := ⟨He.glo_ok X G (c.t.d.fact 29 (f := .glo "node_count") rfl), let ⟨fd, F⟩ := c.t.d.def_ 28 (d := _root_.Hd.d_node_count) rfl; ⟨fd, F, FunD.bindsN (ps := ["term"]) F fun _ _ _ _ _ _ us hl => match us, hl with | [_], _ => rfl⟩⟩
  d_term_depth := ⟨He.glo_ok X G (c.t.d.fact 30 (f := .glo "term_depth") rfl), let ⟨fd, F⟩ := c.t.d.def_ 29 (d := _root_.Hd.d_term_depth) rfl; ⟨fd, F, FunD.bindsN (ps := ["term"]) F fun _ _ _ _ _ _ us hl => match us, hl with | [_], _ => rfl⟩⟩
  d_replaced_depth := ⟨He.glo_ok X G (c.t.d.fact 31 (f := .glo "replaced_depth") rfl), let ⟨fd, F⟩ := c.t.d.def_ 30 (d := _root_.Hd.d_replaced_depth) rfl; ⟨fd, F, FunD.bindsN (ps := ["rows", "node", "size", "other"]) F fun _ _ _ _ _ _ us hl => match us, hl with | [_, _, _, _], _ => rfl⟩⟩
  d_with_term := ⟨He.glo_ok X G (c.t.d.fact 32 (f := .glo "with_term") rfl), let ⟨fd, F⟩ := c.t.d.def_ 31 (d := _root_.Hd.d_with_term) rfl; ⟨fd, F, FunD.bindsN (ps := ["term", "node", "other"]) F fun _ _ _ _ _ _ us hl => match us, hl with | [_, _, _], _ => rfl⟩⟩
  d_is_redex := ⟨He.glo_ok X G (c.t.d.fact 33 (f := .glo "is_redex") rfl), let ⟨fd, F⟩ := c.t.d.def_ 32 (d := _root_.Hd.d_is_redex) rfl; ⟨fd, F, FunD.bindsN (ps := ["here"]) F fun _ _ _ _ _ _ us hl => match us, hl with | [_], _ => rfl⟩⟩
  d_redexes := ⟨He.glo_ok X G (c.t.d.fact 34 (f := .glo "redexes") rfl), let ⟨fd, F⟩ := c.t.d.def_ 33 (d := _root_.Hd.d_redexes) rfl; ⟨fd, F, FunD.bindsN (ps := ["term"]) F fun _ _ _ _ _ _ us hl => match us, hl with | [_], _ => rfl⟩⟩
  d_reduced_root := ⟨He.glo_ok X G (c.t.d.fact 35 (f := .glo "reduced_root") rfl), let ⟨fd, F⟩ := c.t.d.def_ 34 (d := _root_.Hd.d_reduced_root) rfl; ⟨fd, F, FunD.bindsN (ps := ["here"]) F fun _ _ _ _ _ _ us hl => match us, hl with | [_], _ => rfl⟩⟩
  d_reduced_measure := ⟨He.glo_ok X G (c.t.d.fact 36 (f := .glo "reduced_measure") rfl), let ⟨fd, F⟩ := c.t.d.def_ 35 (d := _root_.Hd.d_reduced_measure) rfl; ⟨fd, F, FunD.bindsN (ps := ["here"]) F fun _ _ _ _ _ _ us hl => match us, hl with | [_], _ => rfl⟩⟩
  d_reduced_at := ⟨He.glo_ok X G (c.t.d.fact 37 (f := .glo "reduced_at") rfl), let ⟨fd, F⟩ := c.t.d.def_ 36 (d := _root_.Hd.d_reduced_at) rfl; ⟨fd, F, FunD.bindsN (ps := ["term", "node"]) F fun _ _ _ _ _ _ us hl => match us, hl with | [_, _], _ => rfl⟩⟩
  d__law_mixed := ⟨He.glo_ok X G (c.t.d.fact 38 (f := .glo "_law_mixed") rfl), let ⟨fd, F⟩ := c.t.d.def_ 37 (d := _root_.Hd.d__law_mixed) rfl; ⟨fd, F, FunD.bindsN (ps := ["number"]) F fun _ _ _ _ _ _ us hl => match us, hl with | [_], _ => rfl⟩⟩
  d__law_store := ⟨He.glo_ok X G (c.t.d.fact 39 (f := .glo "_law_store") rfl), let ⟨fd, F⟩ := c.t.d.def_ 38 (d := _root_.Hd.d__law_store) rfl; ⟨fd, F, FunD.bindsN (ps := ["script"]) F fun _ _ _ _ _ _ us hl => match us, hl with | [_], _ => rfl⟩⟩
  d__law_advance := ⟨He.glo_ok X G (c.t.d.fact 40 (f := .glo "_law_advance") rfl), let ⟨fd, F⟩ := c.t.d.def_ 39 (d := _root_.Hd.d__law_advance) rfl; ⟨fd, F, FunD.bindsN (ps := ["store"]) F fun _ _ _ _ _ _ us hl => match us, hl with | [_], _ => rfl⟩⟩
  d__law_take := ⟨He.glo_ok X G (c.t.d.fact 41 (f := .glo "_law_take") rfl), let ⟨fd, F⟩ := c.t.d.def_ 40 (d := _root_.Hd.d__law_take) rfl; ⟨fd, F, FunD.bindsN (ps := ["store", "many"]) F fun _ _ _ _ _ _ us hl => match us, hl with | [_, _], _ => rfl⟩⟩
  d__law_pick := ⟨He.glo_ok X G (c.t.d.fact 42 (f := .glo "_law_pick") rfl), let ⟨fd, F⟩ := c.t.d.def_ 41 (d := _root_.Hd.d__law_pick) rfl; ⟨fd, F, FunD.bindsN (ps := ["store", "things"]) F fun _ _ _ _ _ _ us hl => match us, hl with | [_, _], _ => rfl⟩⟩
  d__law_amount := ⟨He.glo_ok X G (c.t.d.fact 43 (f := .glo "_law_amount") rfl), let ⟨fd, F⟩ := c.t.d.def_ 42 (d := _root_.Hd.d__law_amount) rfl; ⟨fd, F, FunD.bindsN (ps := ["store", "low", "high"]) F fun _ _ _ _ _ _ us hl => match us, hl with | [_, _, _], _ => rfl⟩⟩
  d__law_letters := ⟨He.glo_ok X G (c.t.d.fact 44 (f := .glo "_law_letters") rfl), let ⟨fd, F⟩ := c.t.d.def_ 43 (d := _root_.Hd.d__law_letters) rfl; ⟨fd, F, FunD.bindsN (ps := ["store", "many"]) F fun _ _ _ _ _ _ us hl => match us, hl with | [_, _], _ => rfl⟩⟩
  d__law_leaf := ⟨He.glo_ok X G (c.t.d.fact 45 (f := .glo "_law_leaf") rfl), let ⟨fd, F⟩ := c.t.d.def_ 44 (d := _root_.Hd.d__law_leaf) rfl; ⟨fd, F, FunD.bindsN (ps := ["store", "kinds", "many"]) F fun _ _ _ _ _ _ us hl => match us, hl with | [_, _, _], _ => rfl⟩⟩
  d__law_form := ⟨He.glo_ok X G (c.t.d.fact 46 (f := .glo "_law_form") rfl), let ⟨fd, F⟩ := c.t.d.def_ 45 (d := _root_.Hd.d__law_form) rfl; ⟨fd, F, FunD.bindsN (ps := ["store", "kinds", "many", "steps"]) F fun _ _ _ _ _ _ us hl => match us, hl with | [_, _, _, _], _ => rfl⟩⟩
  d__law_ground := ⟨He.glo_ok X G (c.t.d.fact 47 (f := .glo "_law_ground") rfl), let ⟨fd, F⟩ := c.t.d.def_ 46 (d := _root_.Hd.d__law_ground) rfl; ⟨fd, F, FunD.bindsN (ps := ["store", "kinds"]) F fun _ _ _ _ _ _ us hl => match us, hl with | [_, _], _ => rfl⟩⟩
  d__law_same := ⟨He.glo_ok X G (c.t.d.fact 48 (f := .glo "_law_same") rfl), let ⟨fd, F⟩ := c.t.d.def_ 47 (d := _root_.Hd.d__law_same) rfl; ⟨fd, F, FunD.bindsN (ps := ["one", "two"]) F fun _ _ _ _ _ _ us hl => match us, hl with | [_, _], _ => rfl⟩⟩
  d__law_arity := ⟨He.glo_ok X G (c.t.d.fact 49 (f := .glo "_law_arity") rfl), let ⟨fd, F⟩ := c.t.d.def_ 48 (d := _root_.Hd.d__law_arity) rfl; ⟨fd, F, FunD.bindsN (ps := ["word"]) F fun _ _ _ _ _ _ us hl => match us, hl with | [_], _ => rfl⟩⟩
  d__law_term := ⟨He.glo_ok X G (c.t.d.fact 50 (f := .glo "_law_term") rfl), let ⟨fd, F⟩ := c.t.d.def_ 49 (d := _root_.Hd.d__law_term) rfl; ⟨fd, F, FunD.bindsN (ps := ["heads"]) F fun _ _ _ _ _ _ us hl => match us, hl with | [_], _ => rfl⟩⟩
  d__law_end_head := ⟨He.glo_ok X G (c.t.d.fact 51 (f := .glo "_law_end_head") rfl), let ⟨fd, F⟩ := c.t.d.def_ 50 (d := _root_.Hd.d__law_end_head) rfl; ⟨fd, F, FunD.bindsN (ps := ["store", "names", "consts", "uses", "scope", "free", "way"]) F fun _ _ _ _ _ _ us hl => match us, hl with | [_, _, _, _, _, _, _], _ => rfl⟩⟩
  d__law_some_heads := ⟨He.glo_ok X G (c.t.d.fact 52 (f := .glo "_law_some_heads") rfl), let ⟨fd, F⟩ := c.t.d.def_ 51 (d := _root_.Hd.d__law_some_heads) rfl; ⟨fd, F, FunD.bindsN (ps := ["store", "names", "consts", "uses", "kinds", "size", "deep", "free"]) F fun _ _ _ _ _ _ us hl => match us, hl with | [_, _, _, _, _, _, _, _], _ => rfl⟩⟩
  d__law_tree := ⟨He.glo_ok X G (c.t.d.fact 53 (f := .glo "_law_tree") rfl), let ⟨fd, F⟩ := c.t.d.def_ 52 (d := _root_.Hd.d__law_tree) rfl; ⟨fd, F, FunD.bindsN (ps := ["heads"]) F fun _ _ _ _ _ _ us hl => match us, hl with | [_], _ => rfl⟩⟩
  d__law_binder := ⟨He.glo_ok X G (c.t.d.fact 54 (f := .glo "_law_binder") rfl), let ⟨fd, F⟩ := c.t.d.def_ 53 (d := _root_.Hd.d__law_binder) rfl; ⟨fd, F, FunD.bindsN (ps := ["heads", "parents", "n"]) F fun _ _ _ _ _ _ us hl => match us, hl with | [_, _, _], _ => rfl⟩⟩
  d__law_chain := ⟨He.glo_ok X G (c.t.d.fact 55 (f := .glo "_law_chain") rfl), let ⟨fd, F⟩ := c.t.d.def_ 54 (d := _root_.Hd.d__law_chain) rfl; ⟨fd, F, FunD.bindsN (ps := ["store", "x", "levels", "nodes"]) F fun _ _ _ _ _ _ us hl => match us, hl with | [_, _, _, _], _ => rfl⟩⟩
  d__law_closed := ⟨He.glo_ok X G (c.t.d.fact 56 (f := .glo "_law_closed") rfl), let ⟨fd, F⟩ := c.t.d.def_ 55 (d := _root_.Hd.d__law_closed) rfl; ⟨fd, F, FunD.bindsN (ps := ["heads"]) F fun _ _ _ _ _ _ us hl => match us, hl with | [_], _ => rfl⟩⟩
  d__law_reduct := ⟨He.glo_ok X G (c.t.d.fact 57 (f := .glo "_law_reduct") rfl), let ⟨fd, F⟩ := c.t.d.def_ 56 (d := _root_.Hd.d__law_reduct) rfl; ⟨fd, F, FunD.bindsN (ps := ["heads", "tree", "n"]) F fun _ _ _ _ _ _ us hl => match us, hl with | [_, _, _], _ => rfl⟩⟩
  d__law_wrapped := ⟨He.glo_ok X G (c.t.d.fact 58 (f := .glo "_law_wrapped") rfl), let ⟨fd, F⟩ := c.t.d.def_ 57 (d := _root_.Hd.d__law_wrapped) rfl; ⟨fd, F, FunD.bindsN (ps := ["store", "heads", "names", "words"]) F fun _ _ _ _ _ _ us hl => match us, hl with | [_, _, _, _], _ => rfl⟩⟩
  d__law_bound_heads := ⟨He.glo_ok X G (c.t.d.fact 59 (f := .glo "_law_bound_heads") rfl), let ⟨fd, F⟩ := c.t.d.def_ 58 (d := _root_.Hd.d__law_bound_heads) rfl; ⟨fd, F, FunD.bindsN (ps := ["store", "x"]) F fun _ _ _ _ _ _ us hl => match us, hl with | [_, _], _ => rfl⟩⟩
  d__law_told := ⟨He.glo_ok X G (c.t.d.fact 60 (f := .glo "_law_told") rfl), let ⟨fd, F⟩ := c.t.d.def_ 59 (d := _root_.Hd.d__law_told) rfl; ⟨fd, F, FunD.bindsN (ps := ["term", "node"]) F fun _ _ _ _ _ _ us hl => match us, hl with | [_, _], _ => rfl⟩⟩
  d__law_due := ⟨He.glo_ok X G (c.t.d.fact 61 (f := .glo "_law_due") rfl), let ⟨fd, F⟩ := c.t.d.def_ 60 (d := _root_.Hd.d__law_due) rfl; ⟨fd, F, FunD.bindsN (ps := ["heads", "ends", "n", "reduct"]) F fun _ _ _ _ _ _ us hl => match us, hl with | [_, _, _, _], _ => rfl⟩⟩
  d_law := ⟨He.glo_ok X G (c.t.d.fact 62 (f := .glo "law") rfl), let ⟨fd, F⟩ := c.t.d.def_ 61 (d := _root_.Hd.d_law) rfl; ⟨fd, F, FunD.bindsN (ps := ["script"]) F fun _ _ _ _ _ _ us hl => match us, hl with | [_], _ => rfl⟩⟩
  kx := kx_of fun n hn => ex_k c.more n hn
theorem md_of {base : Heap} (X : K.In h) (G : h.Ns mainGlobals mg) (c : He.SaysX _root_.Hd.fa _root_.Hd.fn _root_.Hd.ts [] _root_.Hd.ex w h0 K) : Md (PySem.W.OpenLaw.row PySem.Challenge.rw_betweenkinds_k12_redexes_reducts).prog w K mg base where
  ValueError := He.free_ok X G (c.t.d.fact 63 (f := .free "ValueError") rfl)
  abs := He.free_ok X G (c.t.d.fact 64 (f := .free "abs") rfl)
  any := He.free_ok X G (c.t.d.fact 65 (f := .free "any") rfl)
  bool := He.free_ok X G (c.t.d.fact 66 (f := .free "bool") rfl)
  enumerate := He.free_ok X G (c.t.d.fact 67 (f := .free "enumerate") rfl)
  int := He.free_ok X G (c.t.d.fact 68 (f := .free "int") rfl)
  isinstance := He.free_ok X G (c.t.d.fact 69 (f := .free "isinstance") rfl)
  len := He.free_ok X G (c.t.d.fact 70 (f := .free "len") rfl)
  list := He.free_ok X G (c.t.d.fact 71 (f := .free "list") rfl)
  max := He.free_ok X G (c.t.d.fact 72 (f := .free "max") rfl)
  range := He.free_ok X G (c.t.d.fact 73 (f := .free "range") rfl)
  str := He.free_ok X G (c.t.d.fact 74 (f := .free "str") rfl)
  tuple := He.free_ok X G (c.t.d.fact 75 (f := .free "tuple") rfl)
  MOST_DEEP := let ⟨t, e⟩ := He.int_ok X G (c.t.d.fact 76 (f := .int "MOST_DEEP" 40) rfl); ⟨_, e, t, rfl⟩
  MOST_NODES := let ⟨t, e⟩ := He.int_ok X G (c.t.d.fact 77 (f := .int "MOST_NODES" 300) rfl); ⟨_, e, t, rfl⟩
  DEEPEST := let ⟨t, e⟩ := He.int_ok X G (c.t.d.fact 78 (f := .int "DEEPEST" 40) rfl); ⟨_, e, t, rfl⟩
  LARGEST := let ⟨t, e⟩ := He.int_ok X G (c.t.d.fact 79 (f := .int "LARGEST" 300) rfl); ⟨_, e, t, rfl⟩
  LAYOUT := ⟨_, tab_of (He.glo_ok X G (c.t.d.fact 80 (f := .glo "LAYOUT") rfl)) (c.t.tab 0 rfl) (ex_t0 c.more)⟩
  c_Trouble := He.glo_ok X G (c.t.d.fact 0 (f := .glo "Trouble") rfl)
  c_BadText := He.glo_ok X G (c.t.d.fact 1 (f := .glo "BadText") rfl)
  k_BadText := xk_of (y := "at") (st := _root_.Hd.m_BadText___init__) (ex_c c.more _ (by decide)) (by decide) (He.glo_ok X G (c.t.d.fact 1 (f := .glo "BadText") rfl)) (let ⟨fd, F⟩ := c.t.d.def_ 0 (d := _root_.Hd.d_m_BadText___init__) rfl; ⟨fd, F, FunD.bindsN (ps := ["self", "at"]) F fun _ _ _ _ _ _ us hl => match us, hl with | [_, _], _ => rfl⟩) ⟨rfl, rfl, rfl, by decide +kernel, rfl, by decide +kernel, by decide +kernel⟩ rfl rfl rfl (by decide) (by decide)
  c_UnknownName := He.glo_ok X G (c.t.d.fact 2 (f := .glo "UnknownName") rfl)
  k_UnknownName := xk_of (y := "name") (st := _root_.Hd.m_UnknownName___init__) (ex_c c.more _ (by decide)) (by decide) (He.glo_ok X G (c.t.d.fact 2 (f := .glo "UnknownName") rfl)) (let ⟨fd, F⟩ := c.t.d.def_ 1 (d := _root_.Hd.d_m_UnknownName___init__) rfl; ⟨fd, F, FunD.bindsN (ps := ["self", "name"]) F fun _ _ _ _ _ _ us hl => match us, hl with | [_, _], _ => rfl⟩) ⟨rfl, rfl, rfl, by decide +kernel, rfl, by decide +kernel, by decide +kernel⟩ rfl rfl rfl (by decide) (by decide)
  c_Twice := He.glo_ok X G (c.t.d.fact 3 (f := .glo "Twice") rfl)
  k_Twice := xk_of (y := "name") (st := _root_.Hd.m_Twice___init__) (ex_c c.more _ (by decide)) (by decide) (He.glo_ok X G (c.t.d.fact 3 (f := .glo "Twice") rfl)) (let ⟨fd, F⟩ := c.t.d.def_ 2 (d := _root_.Hd.d_m_Twice___init__) rfl; ⟨fd, F, FunD.bindsN (ps := ["self", "name"]) F fun _ _ _ _ _ _ us hl => match us, hl with | [_, _], _ => rfl⟩) ⟨rfl, rfl, rfl, by decide +kernel, rfl, by decide +kernel, by decide +kernel⟩ rfl rfl rfl (by decide) (by decide)
  c_Circle := He.glo_ok X G (c.t.d.fact 4 (f := .glo "Circle") rfl)
  c_BadRow := He.glo_ok X G (c.t.d.fact 5 (f := .glo "BadRow") rfl)
  k_BadRow := xk_of (y := "number") (st := _root_.Hd.m_BadRow___init__) (ex_c c.more _ (by decide)) (by decide) (He.glo_ok X G (c.t.d.fact 5 (f := .glo "BadRow") rfl)) (let ⟨fd, F⟩ := c.t.d.def_ 4 (d := _root_.Hd.d_m_BadRow___init__) rfl; ⟨fd, F, FunD.bindsN (ps := ["self", "number"]) F fun _ _ _ _ _ _ us hl => match us, hl with | [_, _], _ => rfl⟩) ⟨rfl, rfl, rfl, by decide +kernel, rfl, by decide +kernel, by decide +kernel⟩ rfl rfl rfl (by decide) (by decide)
  c_NotThere := He.glo_ok X G (c.t.d.fact 6 (f := .glo "NotThere") rfl)
  k_NotThere := xk_of (y := "number") (st := _root_.Hd.m_NotThere___init__) (ex_c c.more _ (by decide)) (by decide) (He.glo_ok X G (c.t.d.fact 6 (f := .glo "NotThere") rfl)) (let ⟨fd, F⟩ := c.t.d.def_ 5 (d := _root_.Hd.d_m_NotThere___init__) rfl; ⟨fd, F, FunD.bindsN (ps := ["self", "number"]) F fun _ _ _ _ _ _ us hl => match us, hl with | [_, _], _ => rfl⟩) ⟨rfl, rfl, rfl, by decide +kernel, rfl, by decide +kernel, by decide +kernel⟩ rfl rfl rfl (by decide) (by decide)
  c_TooDeep := He.glo_ok X G (c.t.d.fact 7 (f := .glo "TooDeep") rfl)
  k_TooDeep := xk_of (y := "limit") (st := _root_.Hd.m_TooDeep___init__) (ex_c c.more _ (by decide)) (by decide) (He.glo_ok X G (c.t.d.fact 7 (f := .glo "TooDeep") rfl)) (let ⟨fd, F⟩ := c.t.d.def_ 6 (d := _root_.Hd.d_m_TooDeep___init__) rfl; ⟨fd, F, FunD.bindsN (ps := ["self", "limit"]) F fun _ _ _ _ _ _ us hl => match us, hl with | [_, _], _ => rfl⟩) ⟨rfl, rfl, rfl, by decide +kernel, rfl, by decide +kernel, by decide +kernel⟩ rfl rfl rfl (by decide) (by decide)
  c_TooBig := He.glo_ok X G (c.t.d.fact 8 (f := .glo "TooBig") rfl)
  k_TooBig := xk_of (y := "limit") (st := _root_.Hd.m_TooBig___init__) (ex_c c.more _ (by decide)) (by decide) (He.glo_ok X G (c.t.d.fact 8 (f := .glo "TooBig") rfl)) (let ⟨fd, F⟩ := c.t.d.def_ 7 (d := _root_.Hd.d_m_TooBig___init__) rfl; ⟨fd, F, FunD.bindsN (ps := ["self", "limit"]) F fun _ _ _ _ _ _ us hl => match us, hl with | [_, _], _ => rfl⟩) ⟨rfl, rfl, rfl, by decide +kernel, rfl, by decide +kernel, by decide +kernel⟩ rfl rfl rfl (by decide) (by decide)
  c_NoMeaning := He.glo_ok X G (c.t.d.fact 9 (f := .glo "NoMeaning") rfl)
  k_NoMeaning := xk_of (y := "name") (st := _root_.Hd.m_NoMeaning___init__) (ex_c c.more _ (by decide)) (by decide) (He.glo_ok X G (c.t.d.fact 9 (f := .glo "NoMeaning") rfl)) (let ⟨fd, F⟩ := c.t.d.def_ 8 (d := _root_.Hd.d_m_NoMeaning___init__) rfl; ⟨fd, F, FunD.bindsN (ps := ["self", "name"]) F fun _ _ _ _ _ _ us hl => match us, hl with | [_, _], _ => rfl⟩) ⟨rfl, rfl, rfl, by decide +kernel, rfl, by decide +kernel, by decide +kernel⟩ rfl rfl rfl (by decide) (by decide)
  c_NoSolution := He.glo_ok X G (c.t.d.fact 10 (f := .glo "NoSolution") rfl)
  k_NoSolution := xk_of (y := "word") (st := _root_.Hd.m_NoSolution___init__) (ex_c c.more _ (by decide)) (by decide) (He.glo_ok X G (c.t.d.fact 10 (f := .glo "NoSolution") rfl)) (let ⟨fd, F⟩ := c.t.d.def_ 9 (d := _root_.Hd.d_m_NoSolution___init__) rfl; ⟨fd, F, FunD.bindsN (ps := ["self", "word"]) F fun _ _ _ _ _ _ us hl => match us, hl with | [_, _], _ => rfl⟩) ⟨rfl, rfl, rfl, by decide +kernel, rfl, by decide +kernel, by decide +kernel⟩ rfl rfl rfl (by decide) (by decide)
  c_Rough := He.glo_ok X G (c.t.d.fact 11 (f := .glo "Rough") rfl)
  k_Rough := xk_of (y := "kind") (st := _root_.Hd.m_Rough___init__) (ex_c c.more _ (by decide)) (by decide) (He.glo_ok X G (c.t.d.fact 11 (f := .glo "Rough") rfl)) (let ⟨fd, F⟩ := c.t.d.def_ 10 (d := _root_.Hd.d_m_Rough___init__) rfl; ⟨fd, F, FunD.bindsN (ps := ["self", "kind"]) F fun _ _ _ _ _ _ us hl => match us, hl with | [_, _], _ => rfl⟩) ⟨rfl, rfl, rfl, by decide +kernel, rfl, by decide +kernel, by decide +kernel⟩ rfl rfl rfl (by decide) (by decide)
  c_TooWide := He.glo_ok X G (c.t.d.fact 12 (f := .glo "TooWide") rfl)
  k_TooWide := xk_of (y := "limit") (st := _root_.Hd.m_TooWide___init__) (ex_c c.more _ (by decide)) (by decide) (He.glo_ok X G (c.t.d.fact 12 (f := .glo "TooWide") rfl)) (let ⟨fd, F⟩ := c.t.d.def_ 11 (d := _root_.Hd.d_m_TooWide___init__) rfl; ⟨fd, F, FunD.bindsN (ps := ["self", "limit"]) F fun _ _ _ _ _ _ us hl => match us, hl with | [_, _], _ => rfl⟩) ⟨rfl, rfl, rfl, by decide +kernel, rfl, by decide +kernel, by decide +kernel⟩ rfl rfl rfl (by decide) (by decide)
  c_InUse := He.glo_ok X G (c.t.d.fact 13 (f := .glo "InUse") rfl)
  k_InUse := xk_of (y := "name") (st := _root_.Hd.m_InUse___init__) (ex_c c.more _ (by decide)) (by decide) (He.glo_ok X G (c.t.d.fact 13 (f := .glo "InUse") rfl)) (let ⟨fd, F⟩ := c.t.d.def_ 12 (d := _root_.Hd.d_m_InUse___init__) rfl; ⟨fd, F, FunD.bindsN (ps := ["self", "name"]) F fun _ _ _ _ _ _ us hl => match us, hl with | [_, _], _ => rfl⟩) ⟨rfl, rfl, rfl, by decide +kernel, rfl, by decide +kernel, by decide +kernel⟩ rfl rfl rfl (by decide) (by decide)
  c_Stuck := He.glo_ok X G (c.t.d.fact 14 (f := .glo "Stuck") rfl)
  k_Stuck := xk_of (y := "node") (st := _root_.Hd.m_Stuck___init__) (ex_c c.more _ (by decide)) (by decide) (He.glo_ok X G (c.t.d.fact 14 (f := .glo "Stuck") rfl)) (let ⟨fd, F⟩ := c.t.d.def_ 13 (d := _root_.Hd.d_m_Stuck___init__) rfl; ⟨fd, F, FunD.bindsN (ps := ["self", "node"]) F fun _ _ _ _ _ _ us hl => match us, hl with | [_, _], _ => rfl⟩) ⟨rfl, rfl, rfl, by decide +kernel, rfl, by decide +kernel, by decide +kernel⟩ rfl rfl rfl (by decide) (by decide)
  c_TooLong := He.glo_ok X G (c.t.d.fact 15 (f := .glo "TooLong") rfl)
  k_TooLong := xk_of (y := "limit") (st := _root_.Hd.m_TooLong___init__) (ex_c c.more _ (by decide)) (by decide) (He.glo_ok X G (c.t.d.fact 15 (f := .glo "TooLong") rfl)) (let ⟨fd, F⟩ := c.t.d.def_ 14 (d := _root_.Hd.d_m_TooLong___init__) rfl; ⟨fd, F, FunD.bindsN (ps := ["self", "limit"]) F fun _ _ _ _ _ _ us hl => match us, hl with | [_, _], _ => rfl⟩) ⟨rfl, rfl, rfl, by decide +kernel, rfl, by decide +kernel, by decide +kernel⟩ rfl rfl rfl (by decide) (by decide)
  xq := fun C ⟨n, hn, e⟩ => e ▸ exB_xq (ex_c c.more n hn)
  xf := fun C ⟨n, hn, e⟩ => e ▸ exB_xf (ex_c c.more n hn)
  xn := fun C ⟨n, hn, e⟩ f hf => e ▸ exB_no (ex_c c.more n hn) hf

theorem facts {f : Addr} (X : K.In h) (G : h.Ns mainGlobals mg) (hf : mg ("law" : Str) = some (.ref f)) (c : He.SaysX _root_.Hd.fa _root_.Hd.fn _root_.Hd.ts [] _root_.Hd.ex w h0 K) :
    ∃ fd : FuncData, (∀ (s : Shared) (v : Value), BindsTo s fd ⟨[v], []⟩ [("script", v)]) ∧ ∀ base : Heap, K.In base → base.Ns mainGlobals mg → FnOk (PySem.W.OpenLaw.row PySem.Challenge.rw_betweenkinds_k12_redexes_reducts).prog w K mg base (CXA (PySem.W.OpenLaw.row PySem.Challenge.rw_betweenkinds_k12_redexes_reducts).prog) 157 f fd ["script"] (spP K g_law.pf) := by
  obtain ⟨fd, F⟩ := c.t.d.def_ 61 (d := _root_.Hd.d_law) rfl
  have e := hf.symm.trans (He.glo_ok X G (c.t.d.fact 62 (f := .glo "law") rfl))
  cases e
  have b := FunD.bindsA (ps := ["script"]) F fun _ _ _ _ _ _ us hl => match us, hl with | [_], _ => rfl
  exact ⟨fd, fun s v => b s [v] rfl, fun base KB GB => cxa (ok_law (md_of KB GB c) (ds_of X G c) F)⟩
end
end Rd
end TL
open PySem PySem.W PySem.Calls PyProof.Rows
theorem PySem.Challenge.cw_betweenkinds_k12_redexes_reducts_holds : PySem.Challenge.rw_betweenkinds_k12_redexes_reducts.Holds := by
  w_on; o_law
  refine HandSHeadRun.head_any (r := OpenLaw.row PySem.Challenge.rw_betweenkinds_k12_redexes_reducts) (q := view (OpenLaw.row PySem.Challenge.rw_betweenkinds_k12_redexes_reducts).prog [72]) (H := Hd.hk) (ob := Hd.ob) (M := 12000) (loose := Hd.names) (d := HandSHeadRun.topDef (OpenLaw.row PySem.Challenge.rw_betweenkinds_k12_redexes_reducts).prog 72) (kwd := []) Hd.ob_eq
    (by kernel_rfl) (fun s => by kernel_rfl) Hd.run (by kernel_rfl) (by kernel_rfl) (by kernel_rfl) (by rfl) (by first | assumption | decide +kernel) (by decide +kernel) ⟨rfl, rfl, rfl, rfl, rfl, by decide +kernel⟩ ?hw ?hc
  case hw => w_witness2
  case hc =>
    refine L2.walk_ofE (l := PySem.Challenge.rw_betweenkinds_k12_redexes_reducts) (n := 63) (k := 157) (x := "script") (CX := TL.CXA (OpenLaw.row PySem.Challenge.rw_betweenkinds_k12_redexes_reducts).prog) rfl (by decide) (by kernel_rfl) ⟨rfl, by decide, by decide⟩ ?F (fun _ _ _ _ z => TL.cxa_no z)
    intro w mg fa h Y G hmg0
    obtain ⟨K, KX, c⟩ := Y
    have hmg : mg ("law" : PySem.Str) = some (.ref fa) := by
      have e : (HandSHeadRun.topDef (OpenLaw.row PySem.Challenge.rw_betweenkinds_k12_redexes_reducts).prog 72).name = ("law" : PySem.Str) := by kernel_rfl
      rw [← e]
      exact hmg0
    obtain ⟨fd, hb, hF⟩ := TL.Rd.facts (w := w) KX G hmg c
    exact ⟨K, fd, TL.spP K TL.Rd.g_law.pf, KX, hb, fun H a ns hl _ hS => TL.law_sp hS fun K0 Z0 hk => ⟨ns, rfl, hk⟩, hF⟩

