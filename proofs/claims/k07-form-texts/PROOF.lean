import PyProof.Rows.All
import Wide.All
import OpenK.AllK
import Wide.FinOn
import HandS.ForMost
import HandS.Walk
import HandS.ExcField
import HandS.HeadHook1
import HandS.HeadHook2
import HandS.Head0
import HandS.Head1
import HandS.Head2
import HandS.HeadEnd
import HandS.HeadHook3
import HandS.HeadHook4
import KE.KStateDown
import Lean
import HandS.ForExc
import HandS.ExcInit
import HandS.Wide
import HandS.IsInst
import HandS.Flow
import HandS.CallSlots
import HandS.TupAny
import HandS.Style
import HandS.Deep
import HandS.StrMore
import HandS.RevRange
import HandS.Zip
import HandS.More
import HandS.Defaults
import HandS.ExcCtx
import HandS.HotCalls
import HandS.ExcInitHot
import KE.GoesEnum
import HandS.Iter
import HandS.ExcIs
import KE.KExcIs
import HandS.Conv
import HandS.Text
import HandS.Dict
import HandS.Flt
import HandS.FStr
import KE.KIntText
import KE.IntTextText
import PySem.Challenge.RW_betweenkinds_k07_form_texts
set_option Elab.async false
set_option linter.all false
set_option maxRecDepth 100000
namespace TL
open PySem PySem.Spec PyProof.Rows L2
inductive T where
  | non | bl (b : Bool) | int (i : Int) | str (x : Str) | adr (v : V)
  | tup (xs : List T) | lst (xs : List T) | ktp (xs : List T) | kls (xs : List T)
  | dic (ks : List Key) (xs : List T) | dit (ks : List (List Key)) (xs : List T)
  | ins (C : Addr) (fs : List Str) (xs : List T)
  | xd (fs : List Str) (xs : List T) | exn (a d C : Addr) (fs : List Str) (xs : List T)
inductive O where
  | sh (t : T)
  | lst (xs : List O) | tup (xs : List O)
  | dic (ks : List Key) (xs : List O) | dit (ks : List (List Key)) (xs : List O)
  | ins (C : Addr) (fs : List Str) (xs : List O)
  | io (v : V) (o : O)
mutual
def Rep (K : PySem.W.Frag) (S : Hp) : T → V → Prop
  | .non, v => v = .non
  | .bl b, v => v = .bl b
  | .int i, v => v = .int i
  | .str x, v => v = .str x
  | .adr u, v => v = u
  | .tup xs, v => ∃ a vs, v = .ref a ∧ S a = some (.tup vs) ∧ Reps K S xs vs
  | .lst xs, v => ∃ a vs, v = .ref a ∧ S a = some (.lst vs) ∧ Reps K S xs vs
  | .ktp xs, v => ∃ a vs, v = .ref a ∧ SqT K S a vs ∧ Reps K S xs vs
  | .kls xs, v => ∃ a vs, v = .ref a ∧ SqL K S a vs ∧ Reps K S xs vs
  | .dic ks xs, v => ∃ a vs, v = .ref a ∧ Rd S a (.dK (ks.zip vs)) ∧ ks.length = xs.length ∧ Reps K S xs vs
  | .dit ks xs, v => ∃ a vs, v = .ref a ∧ S a = some (.dT (ks.zip vs)) ∧ ks.length = xs.length ∧ Reps K S xs vs
  | .ins C fs xs, v => ∃ a dx vs, v = .ref a ∧ S a = some (.ins C dx (fs.zip vs)) ∧ fs.length = xs.length ∧ Reps K S xs vs
  | .xd fs xs, v => ∃ a vs, v = .ref a ∧ S a = some (.xd (fs.zip vs)) ∧ fs.length = xs.length ∧ Reps K S xs vs
  | .exn a d _ fs xs, v => v = .ref a ∧ ∃ vs, S d = some (.xd (fs.zip vs)) ∧ fs.length = xs.length ∧ Reps K S xs vs
def Reps (K : PySem.W.Frag) (S : Hp) : List T → List V → Prop
  | [], vs => vs = []
  | x :: xs, vs => ∃ v r, vs = v :: r ∧ Rep K S x v ∧ Reps K S xs r
end
mutual
def Own (K : PySem.W.Frag) (H S : Hp) : O → V → List Addr → Prop
  | .sh t, v, fp => fp = [] ∧ Rep K S t v
  | .lst os, v, fp => ∃ a vs fq, v = .ref a ∧ H a = some (.lst vs) ∧ Owns K H S os vs fq ∧ fp = a :: fq
  | .dic ks os, v, fp => ∃ a vs fq, v = .ref a ∧ H a = some (.dK (ks.zip vs)) ∧ ks.length = os.length ∧ Owns K H S os vs fq ∧ fp = a :: fq
  | .dit ks os, v, fp => ∃ a vs fq, v = .ref a ∧ H a = some (.dT (ks.zip vs)) ∧ ks.length = os.length ∧ Owns K H S os vs fq ∧ fp = a :: fq
  | .ins C fs os, v, fp => ∃ a dx vs fq, v = .ref a ∧ H a = some (.ins C dx (fs.zip vs)) ∧ H dx = some (.own a) ∧ fs.length = os.length ∧ Owns K H S os vs fq ∧ fp = a :: dx :: fq
  | .tup os, v, fp => ∃ a vs, v = .ref a ∧ S a = some (.tup vs) ∧ Owns K H S os vs fp
  | .io v0 o, v, fp => v = v0 ∧ Own K H S o v fp
def Owns (K : PySem.W.Frag) (H S : Hp) : List O → List V → List Addr → Prop
  | [], vs, fp => vs = [] ∧ fp = []
  | o :: os, vs, fp => ∃ v r f1 f2, vs = v :: r ∧ Own K H S o v f1 ∧ Owns K H S os r f2 ∧ fp = f1 ++ f2
end
mutual
def O.t : O → T
  | .sh t => t
  | .lst os => .lst (O.ts os)
  | .tup os => .tup (O.ts os)
  | .dic ks os => .dic ks (O.ts os)
  | .dit ks os => .dit ks (O.ts os)
  | .ins C fs os => .ins C fs (O.ts os)
  | .io _ o => O.t o
def O.ts : List O → List T
  | [] => []
  | o :: os => O.t o :: O.ts os
end
abbrev R := List (Option O)
theorem Rd.mono {H H' : Hp} {a : Addr} {u : HO} (e : Same H H') (h : Rd H a u) : Rd H' a u := h.imp (e _ _) fun ⟨o, q⟩ => ⟨o, e _ _ q⟩
theorem dget_kr {H : Hp} {a : Addr} {kvs : List (Key × V)} {k : Key} (e : Rd H a (.dK kvs)) : DGet H a (kV k) (valV kvs k) := .inl ⟨kvs, k, e, rfl, rfl⟩
theorem SqT.mono {K : PySem.W.Frag} {H H' : Hp} {a : Addr} {xs : List V} (e : Same H H') (h : SqT K H a xs) : SqT K H' a xs := by
  rcases h with (h | ⟨o, h⟩) | h
  · exact .inl (.inl (e _ _ h))
  · exact .inl (.inr ⟨o, e _ _ h⟩)
  · exact .inr h
mutual
theorem Rep.mono {K : PySem.W.Frag} {S S' : Hp} (e : Same S S') : ∀ {t : T} {v : V}, Rep K S t v → Rep K S' t v
  | .non, _, h => h
  | .bl _, _, h => h
  | .int _, _, h => h
  | .str _, _, h => h
  | .adr _, _, h => h
  | .tup xs, _, h => let ⟨a, vs, h1, h2, h3⟩ := h; ⟨a, vs, h1, e _ _ h2, Reps.mono e h3⟩
  | .lst xs, _, h => let ⟨a, vs, h1, h2, h3⟩ := h; ⟨a, vs, h1, e _ _ h2, Reps.mono e h3⟩
  | .ktp xs, _, h => let ⟨a, vs, h1, h2, h3⟩ := h; ⟨a, vs, h1, SqT.mono e h2, Reps.mono e h3⟩
  | .kls xs, _, h => let ⟨a, vs, h1, h2, h3⟩ := h; ⟨a, vs, h1, Same.seq e h2, Reps.mono e h3⟩
  | .dic ks xs, _, h => let ⟨a, vs, h1, h2, h4, h3⟩ := h; ⟨a, vs, h1, Rd.mono e h2, h4, Reps.mono e h3⟩
  | .dit ks xs, _, h => let ⟨a, vs, h1, h2, h4, h3⟩ := h; ⟨a, vs, h1, e _ _ h2, h4, Reps.mono e h3⟩
  | .ins C fs xs, _, h => let ⟨a, dx, vs, h1, h2, h4, h3⟩ := h; ⟨a, dx, vs, h1, e _ _ h2, h4, Reps.mono e h3⟩
  | .xd fs xs, _, h => let ⟨a, vs, h1, h2, h4, h3⟩ := h; ⟨a, vs, h1, e _ _ h2, h4, Reps.mono e h3⟩
  | .exn a d C fs xs, _, h => let ⟨h1, vs, h2, h4, h3⟩ := h; ⟨h1, vs, e _ _ h2, h4, Reps.mono e h3⟩
theorem Reps.mono {K : PySem.W.Frag} {S S' : Hp} (e : Same S S') : ∀ {ts : List T} {vs : List V}, Reps K S ts vs → Reps K S' ts vs
  | [], _, h => h
  | _ :: _, _, h => let ⟨v, r, h1, h2, h3⟩ := h; ⟨v, r, h1, Rep.mono e h2, Reps.mono e h3⟩
end
mutual
theorem Own.mono {K : PySem.W.Frag} {H H' S S' : Hp} (e : Same S S') : ∀ {o : O} {v : V} {fp : List Addr}, (∀ a ∈ fp, H' a = H a) → Own K H S o v fp → Own K H' S' o v fp
  | .sh t, _, _, _, h => ⟨h.1, Rep.mono e h.2⟩
  | .lst os, _, _, q, h => by
    obtain ⟨a, vs, fq, h1, h2, h3, rfl⟩ := h
    exact ⟨a, vs, fq, h1, by rw [q a List.mem_cons_self]; exact h2, Owns.mono e (fun b hb => q b (List.mem_cons_of_mem _ hb)) h3, rfl⟩
  | .dic ks os, _, _, q, h => by
    obtain ⟨a, vs, fq, h1, h2, h4, h3, rfl⟩ := h
    exact ⟨a, vs, fq, h1, by rw [q a List.mem_cons_self]; exact h2, h4, Owns.mono e (fun b hb => q b (List.mem_cons_of_mem _ hb)) h3, rfl⟩
  | .dit ks os, _, _, q, h => by
    obtain ⟨a, vs, fq, h1, h2, h4, h3, rfl⟩ := h
    exact ⟨a, vs, fq, h1, by rw [q a List.mem_cons_self]; exact h2, h4, Owns.mono e (fun b hb => q b (List.mem_cons_of_mem _ hb)) h3, rfl⟩
  | .ins C fs os, _, _, q, h => by
    obtain ⟨a, dx, vs, fq, h1, h2, h5, h4, h3, rfl⟩ := h
    exact ⟨a, dx, vs, fq, h1, by rw [q a List.mem_cons_self]; exact h2, by rw [q dx (List.mem_cons_of_mem _ List.mem_cons_self)]; exact h5, h4, Owns.mono e (fun b hb => q b (List.mem_cons_of_mem _ (List.mem_cons_of_mem _ hb))) h3, rfl⟩
  | .tup os, _, _, q, h => by
    obtain ⟨a, vs, h1, h2, h3⟩ := h
    exact ⟨a, vs, h1, e _ _ h2, Owns.mono e q h3⟩
  | .io v0 o, _, _, q, h => ⟨h.1, Own.mono e q h.2⟩
theorem Owns.mono {K : PySem.W.Frag} {H H' S S' : Hp} (e : Same S S') : ∀ {os : List O} {vs : List V} {fp : List Addr}, (∀ a ∈ fp, H' a = H a) → Owns K H S os vs fp → Owns K H' S' os vs fp
  | [], _, _, _, h => h
  | _ :: _, _, _, q, h => by
    obtain ⟨v, r, f1, f2, h1, h2, h3, rfl⟩ := h
    exact ⟨v, r, f1, f2, h1, Own.mono e (fun b hb => q b (List.mem_append_left _ hb)) h2, Owns.mono e (fun b hb => q b (List.mem_append_right _ hb)) h3, rfl⟩
end
mutual
theorem Own.frz {K : PySem.W.Frag} {H S S' : Hp} (e : Same S S') : ∀ {o : O} {v : V} {fp : List Addr}, (∀ a ∈ fp, S' a = H a) → Own K H S o v fp → Rep K S' o.t v
  | .sh t, _, _, _, h => Rep.mono e h.2
  | .lst os, _, _, q, h => by
    obtain ⟨a, vs, fq, h1, h2, h3, rfl⟩ := h
    exact ⟨a, vs, h1, by rw [q a List.mem_cons_self]; exact h2, Owns.frz e (fun b hb => q b (List.mem_cons_of_mem _ hb)) h3⟩
  | .dic ks os, _, _, q, h => by
    obtain ⟨a, vs, fq, h1, h2, h4, h3, rfl⟩ := h
    exact ⟨a, vs, h1, .inl (by rw [q a List.mem_cons_self]; exact h2), h4.trans (Owns.len h3).2, Owns.frz e (fun b hb => q b (List.mem_cons_of_mem _ hb)) h3⟩
  | .dit ks os, _, _, q, h => by
    obtain ⟨a, vs, fq, h1, h2, h4, h3, rfl⟩ := h
    exact ⟨a, vs, h1, by rw [q a List.mem_cons_self]; exact h2, h4.trans (Owns.len h3).2, Owns.frz e (fun b hb => q b (List.mem_cons_of_mem _ hb)) h3⟩
  | .ins C fs os, _, _, q, h => by
    obtain ⟨a, dx, vs, fq, h1, h2, h5, h4, h3, rfl⟩ := h
    exact ⟨a, dx, vs, h1, by rw [q a List.mem_cons_self]; exact h2, h4.trans (Owns.len h3).2, Owns.frz e (fun b hb => q b (List.mem_cons_of_mem _ (List.mem_cons_of_mem _ hb))) h3⟩
  | .tup os, _, _, q, h => by
    obtain ⟨a, vs, h1, h2, h3⟩ := h
    exact ⟨a, vs, h1, e _ _ h2, Owns.frz e q h3⟩
  | .io v0 o, _, _, q, h => Own.frz (o := o) e q h.2
theorem Owns.frz {K : PySem.W.Frag} {H S S' : Hp} (e : Same S S') : ∀ {os : List O} {vs : List V} {fp : List Addr}, (∀ a ∈ fp, S' a = H a) → Owns K H S os vs fp → Reps K S' (O.ts os) vs
  | [], _, _, _, h => h.1
  | _ :: _, _, _, q, h => by
    obtain ⟨v, r, f1, f2, h1, h2, h3, rfl⟩ := h
    exact ⟨v, r, h1, Own.frz e (fun b hb => q b (List.mem_append_left _ hb)) h2, Owns.frz e (fun b hb => q b (List.mem_append_right _ hb)) h3⟩
theorem Owns.len {K : PySem.W.Frag} {H S : Hp} : ∀ {os : List O} {vs : List V} {fp : List Addr}, Owns K H S os vs fp → os.length = vs.length ∧ os.length = (O.ts os).length
  | [], _, _, h => by rw [h.1]; exact ⟨rfl, rfl⟩
  | o :: os, _, _, h => by
    obtain ⟨v, r, f1, f2, rfl, h2, h3, _⟩ := h
    have := Owns.len h3
    simp only [List.length_cons, O.ts]
    omega
end
mutual
theorem Own.there {K : PySem.W.Frag} {H S : Hp} : ∀ {o : O} {v : V} {fp : List Addr}, Own K H S o v fp → ∀ a ∈ fp, H a ≠ none
  | .sh t, _, _, h => by rw [h.1]; intro a ha; cases ha
  | .lst os, _, _, h => by
    obtain ⟨a, vs, fq, h1, h2, h3, rfl⟩ := h
    intro b hb
    rcases List.mem_cons.mp hb with rfl | hb
    · rw [h2]; intro z; cases z
    · exact Owns.there h3 b hb
  | .dic ks os, _, _, h => by
    obtain ⟨a, vs, fq, h1, h2, h4, h3, rfl⟩ := h
    intro b hb
    rcases List.mem_cons.mp hb with rfl | hb
    · rw [h2]; intro z; cases z
    · exact Owns.there h3 b hb
  | .dit ks os, _, _, h => by
    obtain ⟨a, vs, fq, h1, h2, h4, h3, rfl⟩ := h
    intro b hb
    rcases List.mem_cons.mp hb with rfl | hb
    · rw [h2]; intro z; cases z
    · exact Owns.there h3 b hb
  | .ins C fs os, _, _, h => by
    obtain ⟨a, dx, vs, fq, h1, h2, h5, h4, h3, rfl⟩ := h
    intro b hb
    rcases List.mem_cons.mp hb with rfl | hb
    · rw [h2]; intro z; cases z
    · rcases List.mem_cons.mp hb with rfl | hb
      · rw [h5]; intro z; cases z
      · exact Owns.there h3 b hb
  | .tup os, _, _, h => by
    obtain ⟨a, vs, h1, h2, h3⟩ := h
    exact Owns.there h3
  | .io v0 o, _, _, h => Own.there (o := o) h.2
theorem Owns.there {K : PySem.W.Frag} {H S : Hp} : ∀ {os : List O} {vs : List V} {fp : List Addr}, Owns K H S os vs fp → ∀ a ∈ fp, H a ≠ none
  | [], _, _, h => by rw [h.2]; intro a ha; cases ha
  | _ :: _, _, _, h => by
    obtain ⟨v, r, f1, f2, h1, h2, h3, rfl⟩ := h
    intro b hb
    rcases List.mem_append.mp hb with hb | hb
    · exact Own.there h2 b hb
    · exact Owns.there h3 b hb
end
theorem Owns.app {K : PySem.W.Frag} {H S : Hp} : ∀ {o1 o2 : List O} {v1 v2 : List V} {f1 f2 : List Addr}, Owns K H S o1 v1 f1 → Owns K H S o2 v2 f2 → Owns K H S (o1 ++ o2) (v1 ++ v2) (f1 ++ f2)
  | [], _, _, _, _, _, h, g => by
    obtain ⟨rfl, rfl⟩ := h
    exact g
  | _ :: _, _, _, _, _, _, h, g => by
    obtain ⟨v, r, f1, f2, rfl, h2, h3, rfl⟩ := h
    exact ⟨v, r ++ _, f1, f2 ++ _, rfl, h2, Owns.app h3 g, by rw [List.append_assoc]⟩
theorem Owns.split {K : PySem.W.Frag} {H S : Hp} : ∀ {o1 o2 : List O} {vs : List V} {fp : List Addr}, Owns K H S (o1 ++ o2) vs fp → ∃ v1 v2 f1 f2, vs = v1 ++ v2 ∧ fp = f1 ++ f2 ∧ Owns K H S o1 v1 f1 ∧ Owns K H S o2 v2 f2
  | [], _, vs, fp, h => ⟨[], vs, [], fp, rfl, rfl, ⟨rfl, rfl⟩, h⟩
  | _ :: _, _, _, _, h => by
    obtain ⟨v, r, f1, f2, rfl, h2, h3, rfl⟩ := h
    obtain ⟨v1, v2, g1, g2, rfl, rfl, a, b⟩ := Owns.split h3
    exact ⟨v :: v1, v2, f1 ++ g1, g2, rfl, by rw [List.append_assoc], ⟨v, v1, f1, g1, rfl, h2, a, rfl⟩, b⟩
theorem Owns.one {K : PySem.W.Frag} {H S : Hp} {o : O} {v : V} {f : List Addr} (h : Own K H S o v f) : Owns K H S [o] [v] f := ⟨v, [], f, [], rfl, h, ⟨rfl, rfl⟩, by simp⟩
theorem Owns.of_one {K : PySem.W.Frag} {H S : Hp} {o : O} {vs : List V} {f : List Addr} (h : Owns K H S [o] vs f) : ∃ v, vs = [v] ∧ Own K H S o v f := by
  obtain ⟨v, r, f1, f2, rfl, h2, ⟨rfl, rfl⟩, rfl⟩ := h
  exact ⟨v, rfl, by simpa using h2⟩
theorem Reps.len {K : PySem.W.Frag} {S : Hp} : ∀ {ts : List T} {vs : List V}, Reps K S ts vs → ts.length = vs.length
  | [], _, h => by rw [show _ = [] from h]; rfl
  | _ :: _, _, h => by
    obtain ⟨v, r, rfl, _, h3⟩ := h
    simp [Reps.len h3]
theorem Reps.app {K : PySem.W.Frag} {S : Hp} : ∀ {o1 o2 : List T} {v1 v2 : List V}, Reps K S o1 v1 → Reps K S o2 v2 → Reps K S (o1 ++ o2) (v1 ++ v2)
  | [], _, _, _, h, g => by
    rw [show _ = [] from h]
    exact g
  | _ :: _, _, _, _, h, g => by
    obtain ⟨v, r, rfl, h2, h3⟩ := h
    exact ⟨v, r ++ _, rfl, h2, Reps.app h3 g⟩
theorem Reps.get {K : PySem.W.Frag} {S : Hp} : ∀ {ts : List T} {vs : List V} {i : Nat} {t : T}, Reps K S ts vs → ts[i]? = some t → ∃ v, vs[i]? = some v ∧ Rep K S t v
  | [], _, _, _, _, e => by simp at e
  | x :: ts, _, 0, t, h, e => by
    obtain ⟨v, r, rfl, h2, h3⟩ := h
    simp at e
    subst e
    exact ⟨v, rfl, h2⟩
  | x :: ts, _, i + 1, t, h, e => by
    obtain ⟨v, r, rfl, h2, h3⟩ := h
    obtain ⟨u, e1, e2⟩ := Reps.get (i := i) h3 (by simpa using e)
    exact ⟨u, by simpa using e1, e2⟩
theorem Reps.of {K : PySem.W.Frag} {S : Hp} : ∀ {ts : List T} {vs : List V}, ts.length = vs.length → (∀ (i : Nat) (t : T) (v : V), ts[i]? = some t → vs[i]? = some v → Rep K S t v) → Reps K S ts vs
  | [], [], _, _ => rfl
  | [], _ :: _, e, _ => by simp at e
  | _ :: _, [], e, _ => by simp at e
  | t :: ts, v :: vs, e, h => ⟨v, vs, rfl, h 0 t v rfl rfl, Reps.of (by simpa using e) fun i t' v' h1 h2 => h (i + 1) t' v' (by simpa using h1) (by simpa using h2)⟩
theorem Owns.sh {K : PySem.W.Frag} {H S : Hp} : ∀ {ts : List T} {vs : List V}, Reps K S ts vs → Owns K H S (ts.map .sh) vs []
  | [], _, h => ⟨h, rfl⟩
  | _ :: _, _, h => by
    obtain ⟨v, r, rfl, h2, h3⟩ := h
    exact ⟨v, r, [], [], rfl, ⟨rfl, h2⟩, Owns.sh h3, rfl⟩
theorem O.ts_sh : ∀ (ts : List T), O.ts (ts.map .sh) = ts
  | [] => rfl
  | t :: ts => by rw [List.map_cons, O.ts, O.t, O.ts_sh ts]
theorem O.ts_map : ∀ (os : List O), O.ts os = os.map O.t
  | [] => rfl
  | o :: os => by rw [O.ts, O.ts_map os, List.map_cons]
structure Sm (K : PySem.W.Frag) (B Wd : Hp) (os : R) (vs : L2.St) (H S : Hp) (fp : Nat → List Addr) : Prop where
  bs : Same B S
  sh : Same S H
  wd : Same Wd H
  len : os.length = vs.length
  own : ∀ i o, os[i]? = some (some o) → ∃ v, vs[i]? = some (some v) ∧ Own K H S o v (fp i)
  nd : ∀ i, (fp i).Nodup
  dj : ∀ i j a, i ≠ j → a ∈ fp i → a ∉ fp j
  sn : ∀ i a, a ∈ fp i → S a = none
  hn : ∀ i a, a ∈ fp i → H a ≠ none
  ws : ∀ a, Wd a ≠ none → S a = none
  wf : ∀ i a, a ∈ fp i → Wd a = none
def Sim (K : PySem.W.Frag) (B Wd : Hp) (os : R) (vs : L2.St) (H : Hp) : Prop := ∃ S fp, Sm K B Wd os vs H S fp
section
variable {K : PySem.W.Frag} {B Wd H S : Hp} {os : R} {vs : L2.St} {fp : Nat → List Addr} {o : O} {v : V} {i : Nat} {t : T}
theorem Sim.len (h : Sim K B Wd os vs H) : os.length = vs.length := let ⟨_, _, s⟩ := h; s.len
/-- the base may be the shared part itself -/
theorem Sm.self (s : Sm K B Wd os vs H S fp) : Sm K S Wd os vs H S fp := ⟨Same.refl _, s.sh, s.wd, s.len, s.own, s.nd, s.dj, s.sn, s.hn, s.ws, s.wf⟩
theorem Sim.rebase {B' : Hp} (e : Same B B') (h : Sim K B' Wd os vs H) : Sim K B Wd os vs H := by
  obtain ⟨S, fp, s⟩ := h
  exact ⟨S, fp, e.trans s.bs, s.sh, s.wd, s.len, s.own, s.nd, s.dj, s.sn, s.hn, s.ws, s.wf⟩
theorem Sim.self (h : Sim K B Wd os vs H) : ∃ S, Same B S ∧ Same S H ∧ Sim K S Wd os vs H := by
  obtain ⟨S, fp, s⟩ := h
  exact ⟨S, s.bs, s.sh, S, fp, s.self⟩
/-- a slot in front -/
theorem Sm.push (s : Sm K B Wd os vs H S fp) (h : Rep K S t v) : Sm K B Wd (some (.sh t) :: os) (some v :: vs) H S (fun i => match i with | 0 => [] | i + 1 => fp i) := by
  refine ⟨s.bs, s.sh, s.wd, by simp [s.len], fun i o e => ?_, fun i => ?_, fun i j a ne ha hb => ?_, fun i a ha => ?_, fun i a ha => ?_, s.ws, fun i a ha => ?_⟩
  · cases i with
    | zero => simp at e; subst e; exact ⟨v, rfl, rfl, h⟩
    | succ i => obtain ⟨w, h1, h2⟩ := s.own i o (by simpa using e); exact ⟨w, by simpa using h1, h2⟩
  · cases i with
    | zero => exact List.nodup_nil
    | succ i => exact s.nd i
  · cases i with
    | zero => cases ha
    | succ i =>
      cases j with
      | zero => cases hb
      | succ j => exact s.dj i j a (by omega) ha hb
  · cases i with
    | zero => cases ha
    | succ i => exact s.sn i a ha
  · cases i with
    | zero => cases ha
    | succ i => exact s.hn i a ha
  · cases i with
    | zero => cases ha
    | succ i => exact s.wf i a ha
theorem Sim.push (h : Sim K B Wd os vs H) (r : ∀ S, Rep K S t v) : Sim K B Wd (some (.sh t) :: os) (some v :: vs) H := by
  obtain ⟨S, fp, s⟩ := h
  exact ⟨S, _, s.push (r S)⟩
/-- the slots by another sight: each new slot is an old one (none twice) or forgotten -/
theorem Sim.via {os' : R} {vs' : L2.St} (h : Sim K B Wd os vs H) (π : Nat → Nat) (inj : ∀ i j, i < os'.length → j < os'.length → π i = π j → i = j) (hl : os'.length = vs'.length)
    (hs : ∀ i o, os'[i]? = some (some o) → os[π i]? = some (some o) ∧ ∀ v, vs[π i]? = some v → vs'[i]? = some v) : Sim K B Wd os' vs' H := by
  obtain ⟨S, fp, s⟩ := h
  have sub : ∀ i a, a ∈ (if i < os'.length then fp (π i) else []) → i < os'.length ∧ a ∈ fp (π i) := fun i a ha => by
    by_cases q : i < os'.length
    · rw [if_pos q] at ha
      exact ⟨q, ha⟩
    · rw [if_neg q] at ha
      cases ha
  refine ⟨S, fun i => if i < os'.length then fp (π i) else [], s.bs, s.sh, s.wd, hl, fun i o e => ?_, fun i => ?_, fun i j a ne ha hb => ?_, fun i a ha => s.sn _ a (sub i a ha).2, fun i a ha => s.hn _ a (sub i a ha).2, s.ws, fun i a ha => s.wf _ a (sub i a ha).2⟩
  · obtain ⟨h1, h2⟩ := hs i o e
    obtain ⟨v, h3, h4⟩ := s.own _ o h1
    have hi : i < os'.length := (List.getElem?_eq_some_iff.mp e).1
    exact ⟨v, h2 _ h3, by simp only [if_pos hi]; exact h4⟩
  · show (if i < os'.length then fp (π i) else []).Nodup
    split
    · exact s.nd _
    · exact List.nodup_nil
  · obtain ⟨a1, a2⟩ := sub i a ha
    obtain ⟨b1, b2⟩ := sub j a hb
    exact s.dj _ _ a (fun z => ne (inj _ _ a1 b1 z)) a2 b2
theorem Sim.drop {o : Option O} {v : Option V} (h : Sim K B Wd (o :: os) (v :: vs) H) : Sim K B Wd os vs H :=
  h.via (fun i => i + 1) (fun _ _ _ _ => by omega) (by have := h.len; simpa using this) fun i o e => ⟨by simpa using e, fun v => by simp⟩
/-- the front slot goes to place i -/
theorem Sim.put {x : Option O} {v : Option V} (h : Sim K B Wd (x :: os) (v :: vs) H) (i : Nat) : Sim K B Wd (os.set i x) (vs.set i v) H := by
  have hl : os.length = vs.length := by have := h.len; simpa using this
  refine h.via (fun j => if j = i then 0 else j + 1) (fun a b _ _ => by split <;> split <;> omega) (by simp [hl]) fun j o e => ?_
  by_cases hj : j = i
  · subst hj
    simp only [if_pos]
    rw [List.getElem?_set] at e
    simp only [if_pos] at e
    split at e
    · rename_i hlt
      refine ⟨by simpa using e, fun w hw => ?_⟩
      rw [List.getElem?_set]
      simp only [if_pos]
      rw [if_pos (by omega)]
      simpa using hw
    · cases e
  · rw [if_neg hj]
    rw [List.getElem?_set_ne (Ne.symm hj)] at e
    exact ⟨by simpa using e, fun w hw => by rw [List.getElem?_set_ne (Ne.symm hj)]; simpa using hw⟩
/-- place n comes to the front, empty behind -/
theorem Sim.pull (h : Sim K B Wd os vs H) {n : Nat} {o : O} (e : os[n]? = some (some o)) : ∃ v, vs[n]? = some (some v) ∧ Sim K B Wd (some o :: os.set n none) (some v :: vs) H := by
  obtain ⟨S, fp, s⟩ := id h
  obtain ⟨v, h1, _⟩ := s.own n o e
  have hn : n < os.length := (List.getElem?_eq_some_iff.mp e).1
  refine ⟨v, h1, h.via (fun j => if j = 0 then n else if j = n + 1 then os.length else j - 1) (fun a b ha hb => ?_) (by simp [h.len]) fun j o' e' => ?_⟩
  · simp only [List.length_cons, List.length_set] at ha hb
    repeat' split
    all_goals omega
  · cases j with
    | zero =>
      simp at e'
      subst e'
      refine ⟨by simpa using e, fun w hw => ?_⟩
      have hw' : vs[n]? = some w := by simpa using hw
      rw [h1] at hw'
      cases hw'
      rfl
    | succ j =>
      rw [List.getElem?_cons_succ, List.getElem?_set] at e'
      by_cases hj : n = j
      · rw [if_pos hj] at e'
        split at e' <;> cases e'
      · rw [if_neg hj] at e'
        have hj' : ¬ j + 1 = n + 1 := fun z => hj (by omega)
        simp only [Nat.add_one_ne_zero, if_false, if_neg hj', Nat.add_sub_cancel]
        exact ⟨e', fun w hw => by simpa using hw⟩
end
end TL
namespace TL
open PySem PySem.Spec PyProof.Rows L2
namespace Rd
def clsN : List Str := ["BadText", "UnknownName", "Twice", "Circle", "BadRow", "NotThere", "TooDeep", "TooBig", "NoMeaning", "NoSolution", "Rough", "TooWide", "InUse", "Stuck", "TooLong"]
def fldN : List Str := ["at", "name", "way", "number", "limit", "word", "kind", "node"]
end Rd
end TL
namespace TL
open PySem PySem.Spec PyProof.Rows L2
namespace Rd
def kvs_SIGNS : List (Str × T) := [("fn", .str " -> "), ("pair", .str " * ")]
end Rd
end TL
namespace TL
open PySem PySem.Spec PyProof.Rows L2
abbrev Fr := PySem.W.Frag
def oexL (K : Fr) (C : Addr) : Bool := match K.lookup C with
  | some ⟨.type t, _, .cls d, sl⟩ => (match d.mro, sl.toList with
    | .ref B :: r, [_, _, _, _, some (.builtin n), _] => decide (t = "type") && (decide (B = C) && (decide (n = "ValueError.__new__") && ((!d.hasDel) && (d.hasDict && PySem.HandSPX.refsVE r))))
    | _, _ => false)
  | _ => false
def oexB (K : Fr) (C : Addr) : Bool := oexL K C && (He.eqO (PySem.W.findIn K (.ref C) "__setattr__") (some (some (.builtin "object.__setattr__"))) &&
  (decide (PySem.W.subIn K (.ref C) (.type "BaseException") = some true) && (decide (PySem.W.typeIn K (.ref C) = some (.type "type")) && PySem.W.keepIn K (.ref C))))
def xqB (K : Fr) (D : Addr) : Bool := (PySem.W.clsIn K D).isSome && (He.eqO (PySem.W.findIn K (.ref D) "__getattribute__") (some (some (.builtin "BaseException.__getattribute__"))) && (He.eqO (PySem.W.findIn K (.ref D) "__getattr__") (some none) &&
  (decide (PySem.W.subIn K (.ref D) (.type "BaseException") = some true) && (PySem.W.hasDictIn K D && (He.eqO (PySem.W.findIn K (.ref D) "__class__") (some (some (.builtin "object.__class__"))) && (He.eqO (PySem.W.specialIn K (.builtin "object.__class__") "__get__") (some (some (.builtin "getset_descriptor.__get__"))) &&
  (decide (PySem.W.takesIn K (.builtin "object.__class__") = some true) && decide (PySem.W.mroIn K D (.type "object") = some true))))))))
def iniB (K : Fr) (c : Str) : Bool := He.eqO (PySem.W.findIn K (.ref (He.ga K c)) "__init__") (some (some (.ref (He.ma K (He.ga K c) "__init__")))) && decide (PySem.W.typeIn K (.ref (He.ma K (He.ga K c) "__init__")) = some (.type "function"))
/-- all of the class c that is asked of it; fs: the fields that own exceptions have -/
def exB (fs : List Str) (K : Fr) (c : Str) : Bool := oexB K (He.ga K c) && (xqB K (He.ga K c) && (xfB K (He.ga K c) && ((fs.all fun f => He.eqO (PySem.W.findIn K (.ref (He.ga K c)) f) (some none)) && iniB K c)))
/-- isinstance of an exception of the class c -/
def kitC (ns : List Str) (K : Fr) (c : Str) : Bool := (ns.all fun n => decide (PySem.W.kitOne K (.ref (He.ga K c)) (.ref (He.ga K n)) = some (decide (c = n)))) && (decide (PySem.W.kitOne K (.ref (He.ga K c)) (.type "ValueError") = some true) && decide (PySem.W.exmOne K (.ref (He.ga K c)) (.ref (He.ga K "Trouble")) = some true))
def flat1 : T → Option V
  | .non => some .non
  | .bl b => some (.bl b)
  | .int i => some (.int i)
  | .str x => some (.str x)
  | _ => none
def flatL : List T → Option (List V)
  | [] => some []
  | t :: ts => match flat1 t, flatL ts with
    | some v, some vs => some (v :: vs)
    | _, _ => none
def entB (K : Fr) (t : T) (u : Value) : Bool := match t with
  | .ktp xs => (match u with
    | .ref a => (match K.lookup a with
      | some ⟨.type c, _, .seq its _, _⟩ => (match flatL xs with
        | some vs => decide (c = "tuple") && (decide (its.size ≤ sizeLine) && He.relAll vs its.toList)
        | none => false)
      | _ => false)
    | _ => false)
  | t => (match flat1 t with
    | some v => He.relB v u
    | none => false)
def tabB (kvs : List (Str × T)) (x : Str) (K : Fr) : Bool := kvs.all fun q => match PySem.W.nsIn K (He.ga K x) q.1 with
  | some (some u) => entB K q.2 u
  | _ => false
end TL
set_option maxHeartbeats 0
namespace Hd
open PySem PySem.Spec PyProof.Rows L2
def top (i : Nat) : Stmt := PySem.Challenge.pw_betweenkinds_k07_form_texts.main.body.getD i (.Pass ⟨0, 0, 0, 0⟩)
abbrev m_BadText___init__ : Stmt := inClass (top 2) 0
def d_m_BadText___init__ : He.DefD := ⟨("BadText", some "__init__"), "__init__", "BadText.__init__", defArgs m_BadText___init__, defBody m_BadText___init__, defScope m_BadText___init__, [], []⟩
abbrev m_UnknownName___init__ : Stmt := inClass (top 3) 0
def d_m_UnknownName___init__ : He.DefD := ⟨("UnknownName", some "__init__"), "__init__", "UnknownName.__init__", defArgs m_UnknownName___init__, defBody m_UnknownName___init__, defScope m_UnknownName___init__, [], []⟩
abbrev m_Twice___init__ : Stmt := inClass (top 4) 0
def d_m_Twice___init__ : He.DefD := ⟨("Twice", some "__init__"), "__init__", "Twice.__init__", defArgs m_Twice___init__, defBody m_Twice___init__, defScope m_Twice___init__, [], []⟩
abbrev m_Circle___init__ : Stmt := inClass (top 5) 0
def d_m_Circle___init__ : He.DefD := ⟨("Circle", some "__init__"), "__init__", "Circle.__init__", defArgs m_Circle___init__, defBody m_Circle___init__, defScope m_Circle___init__, [], []⟩
abbrev m_BadRow___init__ : Stmt := inClass (top 6) 0
def d_m_BadRow___init__ : He.DefD := ⟨("BadRow", some "__init__"), "__init__", "BadRow.__init__", defArgs m_BadRow___init__, defBody m_BadRow___init__, defScope m_BadRow___init__, [], []⟩
abbrev m_NotThere___init__ : Stmt := inClass (top 7) 0
def d_m_NotThere___init__ : He.DefD := ⟨("NotThere", some "__init__"), "__init__", "NotThere.__init__", defArgs m_NotThere___init__, defBody m_NotThere___init__, defScope m_NotThere___init__, [], []⟩
abbrev m_TooDeep___init__ : Stmt := inClass (top 8) 0
def d_m_TooDeep___init__ : He.DefD := ⟨("TooDeep", some "__init__"), "__init__", "TooDeep.__init__", defArgs m_TooDeep___init__, defBody m_TooDeep___init__, defScope m_TooDeep___init__, [], []⟩
abbrev m_TooBig___init__ : Stmt := inClass (top 9) 0
def d_m_TooBig___init__ : He.DefD := ⟨("TooBig", some "__init__"), "__init__", "TooBig.__init__", defArgs m_TooBig___init__, defBody m_TooBig___init__, defScope m_TooBig___init__, [], []⟩
abbrev m_NoMeaning___init__ : Stmt := inClass (top 10) 0
def d_m_NoMeaning___init__ : He.DefD := ⟨("NoMeaning", some "__init__"), "__init__", "NoMeaning.__init__", defArgs m_NoMeaning___init__, defBody m_NoMeaning___init__, defScope m_NoMeaning___init__, [], []⟩
abbrev m_NoSolution___init__ : Stmt := inClass (top 11) 0
def d_m_NoSolution___init__ : He.DefD := ⟨("NoSolution", some "__init__"), "__init__", "NoSolution.__init__", defArgs m_NoSolution___init__, defBody m_NoSolution___init__, defScope m_NoSolution___init__, [], []⟩
abbrev m_Rough___init__ : Stmt := inClass (top 12) 0
def d_m_Rough___init__ : He.DefD := ⟨("Rough", some "__init__"), "__init__", "Rough.__init__", defArgs m_Rough___init__, defBody m_Rough___init__, defScope m_Rough___init__, [], []⟩
abbrev m_TooWide___init__ : Stmt := inClass (top 13) 0
def d_m_TooWide___init__ : He.DefD := ⟨("TooWide", some "__init__"), "__init__", "TooWide.__init__", defArgs m_TooWide___init__, defBody m_TooWide___init__, defScope m_TooWide___init__, [], []⟩
abbrev m_InUse___init__ : Stmt := inClass (top 14) 0
def d_m_InUse___init__ : He.DefD := ⟨("InUse", some "__init__"), "__init__", "InUse.__init__", defArgs m_InUse___init__, defBody m_InUse___init__, defScope m_InUse___init__, [], []⟩
abbrev m_Stuck___init__ : Stmt := inClass (top 15) 0
def d_m_Stuck___init__ : He.DefD := ⟨("Stuck", some "__init__"), "__init__", "Stuck.__init__", defArgs m_Stuck___init__, defBody m_Stuck___init__, defScope m_Stuck___init__, [], []⟩
abbrev m_TooLong___init__ : Stmt := inClass (top 16) 0
def d_m_TooLong___init__ : He.DefD := ⟨("TooLong", some "__init__"), "__init__", "TooLong.__init__", defArgs m_TooLong___init__, defBody m_TooLong___init__, defScope m_TooLong___init__, [], []⟩
abbrev f_letters_from : Stmt := top 20
def d_letters_from : He.DefD := ⟨("letters_from", none), "letters_from", "letters_from", defArgs f_letters_from, defBody f_letters_from, defScope f_letters_from, [], []⟩
abbrev f_digits_from : Stmt := top 21
def d_digits_from : He.DefD := ⟨("digits_from", none), "digits_from", "digits_from", defArgs f_digits_from, defBody f_digits_from, defScope f_digits_from, [], []⟩
abbrev f_preorder : Stmt := top 22
def d_preorder : He.DefD := ⟨("preorder", none), "preorder", "preorder", defArgs f_preorder, defBody f_preorder, defScope f_preorder, [], []⟩
abbrev f_form_depth : Stmt := top 23
def d_form_depth : He.DefD := ⟨("form_depth", none), "form_depth", "form_depth", defArgs f_form_depth, defBody f_form_depth, defScope f_form_depth, [], []⟩
abbrev f_form_size : Stmt := top 24
def d_form_size : He.DefD := ⟨("form_size", none), "form_size", "form_size", defArgs f_form_size, defBody f_form_size, defScope f_form_size, [], []⟩
abbrev f_show_form : Stmt := top 30
def d_show_form : He.DefD := ⟨("show_form", none), "show_form", "show_form", defArgs f_show_form, defBody f_show_form, defScope f_show_form, [], []⟩
abbrev f_show_row : Stmt := top 31
def d_show_row : He.DefD := ⟨("show_row", none), "show_row", "show_row", defArgs f_show_row, defBody f_show_row, defScope f_show_row, [], []⟩
abbrev f_after_sign : Stmt := top 32
def d_after_sign : He.DefD := ⟨("after_sign", none), "after_sign", "after_sign", defArgs f_after_sign, defBody f_after_sign, defScope f_after_sign, [], []⟩
abbrev f_after_name : Stmt := top 33
def d_after_name : He.DefD := ⟨("after_name", none), "after_name", "after_name", defArgs f_after_name, defBody f_after_name, defScope f_after_name, [], []⟩
abbrev f_after_number : Stmt := top 34
def d_after_number : He.DefD := ⟨("after_number", none), "after_number", "after_number", defArgs f_after_number, defBody f_after_number, defScope f_after_number, [], []⟩
abbrev f_middle_at : Stmt := top 35
def d_middle_at : He.DefD := ⟨("middle_at", none), "middle_at", "middle_at", defArgs f_middle_at, defBody f_middle_at, defScope f_middle_at, [], []⟩
abbrev f_leaf_at : Stmt := top 36
def d_leaf_at : He.DefD := ⟨("leaf_at", none), "leaf_at", "leaf_at", defArgs f_leaf_at, defBody f_leaf_at, defScope f_leaf_at, [], []⟩
abbrev f_closed_at : Stmt := top 37
def d_closed_at : He.DefD := ⟨("closed_at", none), "closed_at", "closed_at", defArgs f_closed_at, defBody f_closed_at, defScope f_closed_at, [], []⟩
abbrev f_form_at : Stmt := top 38
def d_form_at : He.DefD := ⟨("form_at", none), "form_at", "form_at", defArgs f_form_at, defBody f_form_at, defScope f_form_at, [], []⟩
abbrev f_ask_end : Stmt := top 39
def d_ask_end : He.DefD := ⟨("ask_end", none), "ask_end", "ask_end", defArgs f_ask_end, defBody f_ask_end, defScope f_ask_end, [], []⟩
abbrev f_ask_limits : Stmt := top 40
def d_ask_limits : He.DefD := ⟨("ask_limits", none), "ask_limits", "ask_limits", defArgs f_ask_limits, defBody f_ask_limits, defScope f_ask_limits, [], []⟩
abbrev f_read_form : Stmt := top 41
def d_read_form : He.DefD := ⟨("read_form", none), "read_form", "read_form", defArgs f_read_form, defBody f_read_form, defScope f_read_form, [], []⟩
abbrev f_read_row : Stmt := top 42
def d_read_row : He.DefD := ⟨("read_row", none), "read_row", "read_row", defArgs f_read_row, defBody f_read_row, defScope f_read_row, [], []⟩
abbrev f__law_mixed : Stmt := top 44
def d__law_mixed : He.DefD := ⟨("_law_mixed", none), "_law_mixed", "_law_mixed", defArgs f__law_mixed, defBody f__law_mixed, defScope f__law_mixed, [], []⟩
abbrev f__law_store : Stmt := top 45
def d__law_store : He.DefD := ⟨("_law_store", none), "_law_store", "_law_store", defArgs f__law_store, defBody f__law_store, defScope f__law_store, [], []⟩
abbrev f__law_advance : Stmt := top 46
def d__law_advance : He.DefD := ⟨("_law_advance", none), "_law_advance", "_law_advance", defArgs f__law_advance, defBody f__law_advance, defScope f__law_advance, [], []⟩
abbrev f__law_take : Stmt := top 47
def d__law_take : He.DefD := ⟨("_law_take", none), "_law_take", "_law_take", defArgs f__law_take, defBody f__law_take, defScope f__law_take, [], []⟩
abbrev f__law_pick : Stmt := top 48
def d__law_pick : He.DefD := ⟨("_law_pick", none), "_law_pick", "_law_pick", defArgs f__law_pick, defBody f__law_pick, defScope f__law_pick, [], []⟩
abbrev f__law_amount : Stmt := top 49
def d__law_amount : He.DefD := ⟨("_law_amount", none), "_law_amount", "_law_amount", defArgs f__law_amount, defBody f__law_amount, defScope f__law_amount, [], []⟩
abbrev f__law_letters : Stmt := top 50
def d__law_letters : He.DefD := ⟨("_law_letters", none), "_law_letters", "_law_letters", defArgs f__law_letters, defBody f__law_letters, defScope f__law_letters, [], []⟩
abbrev f__law_leaf : Stmt := top 51
def d__law_leaf : He.DefD := ⟨("_law_leaf", none), "_law_leaf", "_law_leaf", defArgs f__law_leaf, defBody f__law_leaf, defScope f__law_leaf, [], []⟩
abbrev f__law_form : Stmt := top 52
def d__law_form : He.DefD := ⟨("_law_form", none), "_law_form", "_law_form", defArgs f__law_form, defBody f__law_form, defScope f__law_form, [], []⟩
abbrev f__law_deep_form : Stmt := top 53
def d__law_deep_form : He.DefD := ⟨("_law_deep_form", none), "_law_deep_form", "_law_deep_form", defArgs f__law_deep_form, defBody f__law_deep_form, defScope f__law_deep_form, [], []⟩
abbrev f__law_wide_form : Stmt := top 54
def d__law_wide_form : He.DefD := ⟨("_law_wide_form", none), "_law_wide_form", "_law_wide_form", defArgs f__law_wide_form, defBody f__law_wide_form, defScope f__law_wide_form, [], []⟩
abbrev f__law_kids : Stmt := top 55
def d__law_kids : He.DefD := ⟨("_law_kids", none), "_law_kids", "_law_kids", defArgs f__law_kids, defBody f__law_kids, defScope f__law_kids, [], []⟩
abbrev f__law_preorder : Stmt := top 56
def d__law_preorder : He.DefD := ⟨("_law_preorder", none), "_law_preorder", "_law_preorder", defArgs f__law_preorder, defBody f__law_preorder, defScope f__law_preorder, [], []⟩
abbrev f__law_form_text : Stmt := top 57
def d__law_form_text : He.DefD := ⟨("_law_form_text", none), "_law_form_text", "_law_form_text", defArgs f__law_form_text, defBody f__law_form_text, defScope f__law_form_text, [], []⟩
abbrev f__law_same : Stmt := top 58
def d__law_same : He.DefD := ⟨("_law_same", none), "_law_same", "_law_same", defArgs f__law_same, defBody f__law_same, defScope f__law_same, [], []⟩
abbrev f__law_common : Stmt := top 59
def d__law_common : He.DefD := ⟨("_law_common", none), "_law_common", "_law_common", defArgs f__law_common, defBody f__law_common, defScope f__law_common, [], []⟩
abbrev f__law_leaf_end : Stmt := top 60
def d__law_leaf_end : He.DefD := ⟨("_law_leaf_end", none), "_law_leaf_end", "_law_leaf_end", defArgs f__law_leaf_end, defBody f__law_leaf_end, defScope f__law_leaf_end, [], []⟩
abbrev f__law_scan : Stmt := top 61
def d__law_scan : He.DefD := ⟨("_law_scan", none), "_law_scan", "_law_scan", defArgs f__law_scan, defBody f__law_scan, defScope f__law_scan, [], []⟩
abbrev f__law_is_form : Stmt := top 62
def d__law_is_form : He.DefD := ⟨("_law_is_form", none), "_law_is_form", "_law_is_form", defArgs f__law_is_form, defBody f__law_is_form, defScope f__law_is_form, [], []⟩
abbrev f__law_due : Stmt := top 63
def d__law_due : He.DefD := ⟨("_law_due", none), "_law_due", "_law_due", defArgs f__law_due, defBody f__law_due, defScope f__law_due, [], []⟩
abbrev f__law_told : Stmt := top 64
def d__law_told : He.DefD := ⟨("_law_told", none), "_law_told", "_law_told", defArgs f__law_told, defBody f__law_told, defScope f__law_told, [], []⟩
abbrev f__law_spoilt : Stmt := top 65
def d__law_spoilt : He.DefD := ⟨("_law_spoilt", none), "_law_spoilt", "_law_spoilt", defArgs f__law_spoilt, defBody f__law_spoilt, defScope f__law_spoilt, [], []⟩
abbrev f__law_made : Stmt := top 66
def d__law_made : He.DefD := ⟨("_law_made", none), "_law_made", "_law_made", defArgs f__law_made, defBody f__law_made, defScope f__law_made, [], []⟩
abbrev f_law : Stmt := top 67
def d_law : He.DefD := ⟨("law", none), "law", "law", defArgs f_law, defBody f_law, defScope f_law, [], []⟩
def fn : List He.DefD := [d_m_BadText___init__, d_m_UnknownName___init__, d_m_Twice___init__, d_m_Circle___init__, d_m_BadRow___init__, d_m_NotThere___init__, d_m_TooDeep___init__, d_m_TooBig___init__, d_m_NoMeaning___init__, d_m_NoSolution___init__, d_m_Rough___init__, d_m_TooWide___init__, d_m_InUse___init__, d_m_Stuck___init__, d_m_TooLong___init__, d_letters_from, d_digits_from, d_preorder, d_form_depth, d_form_size, d_show_form, d_show_row, d_after_sign, d_after_name, d_after_number, d_middle_at, d_leaf_at, d_closed_at, d_form_at, d_ask_end, d_ask_limits, d_read_form, d_read_row, d__law_mixed, d__law_store, d__law_advance, d__law_take, d__law_pick, d__law_amount, d__law_letters, d__law_leaf, d__law_form, d__law_deep_form, d__law_wide_form, d__law_kids, d__law_preorder, d__law_form_text, d__law_same, d__law_common, d__law_leaf_end, d__law_scan, d__law_is_form, d__law_due, d__law_told, d__law_spoilt, d__law_made, d_law]
def fa : List He.Fa := [.glo "Trouble", .glo "BadText", .glo "UnknownName", .glo "Twice", .glo "Circle", .glo "BadRow", .glo "NotThere", .glo "TooDeep", .glo "TooBig", .glo "NoMeaning", .glo "NoSolution", .glo "Rough", .glo "TooWide", .glo "InUse", .glo "Stuck", .glo "TooLong", .glo "letters_from", .glo "digits_from", .glo "preorder", .glo "form_depth", .glo "form_size", .glo "show_form", .glo "show_row", .glo "after_sign", .glo "after_name", .glo "after_number", .glo "middle_at", .glo "leaf_at", .glo "closed_at", .glo "form_at", .glo "ask_end", .glo "ask_limits", .glo "read_form", .glo "read_row", .glo "_law_mixed", .glo "_law_store", .glo "_law_advance", .glo "_law_take", .glo "_law_pick", .glo "_law_amount", .glo "_law_letters", .glo "_law_leaf", .glo "_law_form", .glo "_law_deep_form", .glo "_law_wide_form", .glo "_law_kids", .glo "_law_preorder", .glo "_law_form_text", .glo "_law_same", .glo "_law_common", .glo "_law_leaf_end", .glo "_law_scan", .glo "_law_is_form", .glo "_law_due", .glo "_law_told", .glo "_law_spoilt", .glo "_law_made", .glo "law", .free "ValueError", .free "abs", .free "all", .free "any", .free "bool", .free "int", .free "isinstance", .free "len", .free "list", .free "max", .free "range", .free "str", .free "tuple", .int "MOST_LETTERS" 8, .int "MOST_DIGITS" 2, .int "MOST_DEPTH" 24, .int "MOST_NODES" 100, .int "MOST_FIGURES" 4, .glo "SIGNS"]
def ts : List He.Tab := [(fun K => He.ga K "SIGNS", ["fn", "pair"])]
def kitL : List Str := ["BadText", "TooDeep", "TooBig"]
def ex (K : PySem.W.Frag) : Bool := (TL.Rd.clsN.all fun c => TL.exB TL.Rd.fldN K c) && ((kitL.all fun c => TL.kitC TL.Rd.clsN K c) && true && TL.tabB TL.Rd.kvs_SIGNS "SIGNS" K)
abbrev R : PySem.W.OpenRow := PySem.W.OpenLaw.row PySem.Challenge.rw_betweenkinds_k07_form_texts
abbrev hk : PySem.W.Hook := He.hookX 6 fa fn ts [] ex
def ob (s : PySem.W.SharedT) : He.AlX := He.obsX 6 fa fn ts [] ex (HandSHeadRun.getT s)
theorem ob_eq (s : PySem.W.SharedT) : ob s = hk.obs s.abs := He.obsX_eq (HandSHeadRun.getT_eq s)
def names0 : List PySem.Str := ["__name__", "Trouble", "BadText", "UnknownName", "Twice", "Circle", "BadRow", "NotThere", "TooDeep", "TooBig", "NoMeaning", "NoSolution", "Rough", "TooWide", "InUse", "Stuck", "TooLong", "MOST_LETTERS", "MOST_DIGITS", "letters_from", "digits_from", "preorder", "form_depth", "form_size", "MOST_DEPTH", "MOST_NODES", "MOST_FIGURES", "SIGNS", "show_form", "show_row"]
def names1 : List PySem.Str := ["after_sign", "after_name", "after_number", "middle_at", "leaf_at", "closed_at", "form_at", "ask_end", "ask_limits", "read_form", "read_row", "_law_mixed", "_law_store", "_law_advance", "_law_take", "_law_pick", "_law_amount", "_law_letters", "_law_leaf", "_law_form", "_law_deep_form", "_law_wide_form", "_law_kids", "_law_preorder", "_law_form_text", "_law_same", "_law_common", "_law_leaf_end", "_law_scan", "_law_is_form"]
def names2 : List PySem.Str := ["_law_due", "_law_told", "_law_spoilt", "_law_made"]
def names : List PySem.Str := names0 ++ names1 ++ names2
theorem run_f (w : World) : HandSHeadRun.RunEq R (PySem.W.view R.prog [67]) hk ob 12000 names (w.withFollow "special-get-raises" false) := by
  intro os
  kernel_rfl
theorem run_t (w : World) : HandSHeadRun.RunEq R (PySem.W.view R.prog [67]) hk ob 12000 names (w.withFollow "special-get-raises" true) := by
  intro os
  kernel_rfl
theorem run (w : World) : HandSHeadRun.RunEq R (PySem.W.view R.prog [67]) hk ob 12000 names w :=
  PySem.W.byRow2 "special-get-raises" (P := fun w => HandSHeadRun.RunEq R (PySem.W.view R.prog [67]) hk ob 12000 names w) run_f run_t w
end Hd
namespace TL
open PySem PySem.Spec PyProof.Rows L2
section
variable {K : PySem.W.Frag} {B Wd H S : Hp} {os : R} {vs : L2.St} {fp : Nat → List Addr} {o : O} {v : V} {i : Nat} {t : T}
theorem Sim.frame {as : R} {va : L2.St} (hl : as.length = va.length) (h : Sim K B Wd (as ++ os) (va ++ vs) H) :
    ∃ B' Wd', Same B B' ∧ Sim K B' Wd' as va H ∧ ∀ as' va' H', Sim K B' Wd' as' va' H' → Sim K B Wd (as' ++ os) (va' ++ vs) H' := by
  obtain ⟨S, fp, s⟩ := h
  have hlen : os.length = vs.length := by have := s.len; simp at this; omega
  obtain ⟨n, hn⟩ : ∃ n, n = as.length := ⟨_, rfl⟩
  classical
  refine ⟨S, fun a => if ∃ i, n ≤ i ∧ i < n + os.length ∧ a ∈ fp i then H a else Wd a, s.bs, ⟨S, fun i => if i < n then fp i else [], Same.refl _, s.sh, fun a o e => ?_, hl, fun i o e => ?_, fun i => ?_, fun i j a ne ha hb => ?_, fun i a ha => ?_, fun i a ha => ?_, fun a ha => ?_, fun i a ha => ?_⟩, fun as' va' H' h' => ?_⟩
  · try dsimp only at e
    split at e
    · exact e
    · exact s.wd a o e
  · have hi : i < n := by rw [hn]; exact (List.getElem?_eq_some_iff.mp e).1
    obtain ⟨v, h1, h2⟩ := s.own i o (by rw [List.getElem?_append_left (by omega)]; exact e)
    rw [List.getElem?_append_left (by omega)] at h1
    exact ⟨v, h1, by simp only [if_pos hi]; exact h2⟩
  · show (if i < n then fp i else []).Nodup
    split
    · exact s.nd i
    · exact List.nodup_nil
  · try dsimp only at ha hb
    split at ha
    · split at hb
      · exact s.dj i j a ne ha hb
      · cases hb
    · cases ha
  · try dsimp only at ha
    split at ha
    · exact s.sn i a ha
    · cases ha
  · try dsimp only at ha
    split at ha
    · exact s.hn i a ha
    · cases ha
  · try dsimp only at ha
    split at ha
    · rename_i q
      obtain ⟨i, _, _, q⟩ := q
      exact s.sn i a q
    · exact s.ws a ha
  · try dsimp only at ha
    split at ha
    · rename_i hi
      show (if ∃ i, n ≤ i ∧ i < n + os.length ∧ a ∈ fp i then H a else Wd a) = none
      rw [if_neg]
      · exact s.wf i a ha
      · rintro ⟨j, h1, _, h2⟩
        exact s.dj i j a (by omega) ha h2
    · cases ha
  · obtain ⟨S', fp', s'⟩ := h'
    have hw : ∀ a, (∃ i, n ≤ i ∧ i < n + os.length ∧ a ∈ fp i) → H' a = H a ∧ S' a = none ∧ ∀ j, a ∉ fp' j := fun a q => by
      have q2 := q
      obtain ⟨i, h1, h2, h3⟩ := q
      have hH := s.hn i a h3
      have hwa : (if ∃ i, n ≤ i ∧ i < n + os.length ∧ a ∈ fp i then H a else Wd a) = H a := if_pos q2
      refine ⟨?_, ?_, fun j hj => ?_⟩
      · cases e : H a with
        | none => exact absurd e hH
        | some o => exact s'.wd a o (hwa.trans e)
      · exact s'.ws a (by show (if _ then H a else Wd a) ≠ none; rw [hwa]; exact hH)
      · have := s'.wf j a hj
        have h9 : (if ∃ i, n ≤ i ∧ i < n + os.length ∧ a ∈ fp i then H a else Wd a) = none := this
        rw [hwa] at h9
        exact hH h9
    have hwd : ∀ a, Wd a ≠ none → (if ∃ i, n ≤ i ∧ i < n + os.length ∧ a ∈ fp i then H a else Wd a) = Wd a := fun a q => by
      rw [if_neg]
      rintro ⟨i, _, _, h3⟩
      exact q (s.wf i a h3)
    have sub : ∀ i a, a ∈ (if i < as'.length then fp' i else if i < as'.length + os.length then fp (n + (i - as'.length)) else []) →
        (i < as'.length ∧ a ∈ fp' i) ∨ (as'.length ≤ i ∧ i < as'.length + os.length ∧ a ∈ fp (n + (i - as'.length))) := fun i a ha => by
      split at ha
      · rename_i q; exact .inl ⟨q, ha⟩
      · rename_i q
        split at ha
        · rename_i q2; exact .inr ⟨by omega, q2, ha⟩
        · cases ha
    have w0 : ∀ {i a}, as'.length ≤ i → i < as'.length + os.length → a ∈ fp (n + (i - as'.length)) → H' a = H a ∧ S' a = none ∧ ∀ j, a ∉ fp' j := fun h1 h2 h3 => hw _ ⟨_, by omega, by omega, h3⟩
    refine ⟨S', fun i => if i < as'.length then fp' i else if i < as'.length + os.length then fp (n + (i - as'.length)) else [], s.bs.trans s'.bs, s'.sh, fun a o e => ?_, by have := s'.len; simp; omega, fun i o e => ?_, fun i => ?_, fun i j a ne ha hb => ?_, fun i a ha => ?_, fun i a ha => ?_, fun a ha => ?_, fun i a ha => ?_⟩
    · exact s'.wd a o ((hwd a (by rw [e]; intro z; cases z)).trans e)
    · by_cases hi : i < as'.length
      · rw [List.getElem?_append_left hi] at e
        obtain ⟨v, h1, h2⟩ := s'.own i o e
        refine ⟨v, ?_, by simp only [if_pos hi]; exact h2⟩
        rw [List.getElem?_append_left (by have := s'.len; omega)]
        exact h1
      · rw [List.getElem?_append_right (by omega)] at e
        have hk : i - as'.length < os.length := (List.getElem?_eq_some_iff.mp e).1
        obtain ⟨v, h1, h2⟩ := s.own (n + (i - as'.length)) o (by rw [List.getElem?_append_right (by omega)]; rw [show n + (i - as'.length) - as.length = i - as'.length by omega]; exact e)
        rw [List.getElem?_append_right (by omega)] at h1
        rw [show n + (i - as'.length) - va.length = i - as'.length by omega] at h1
        refine ⟨v, ?_, ?_⟩
        · rw [List.getElem?_append_right (by have := s'.len; omega)]
          rw [show i - va'.length = i - as'.length by have := s'.len; omega]
          exact h1
        · simp only [if_neg hi, if_pos (show i < as'.length + os.length by omega)]
          exact h2.mono s'.bs fun a ha => (w0 (by omega) (by omega) ha).1
    · show (if i < as'.length then fp' i else if i < as'.length + os.length then fp (n + (i - as'.length)) else []).Nodup
      split
      · exact s'.nd i
      · split
        · exact s.nd _
        · exact List.nodup_nil
    · rcases sub i a ha with ⟨a1, a2⟩ | ⟨a1, a2, a3⟩
      · rcases sub j a hb with ⟨b1, b2⟩ | ⟨b1, b2, b3⟩
        · exact s'.dj i j a ne a2 b2
        · exact (w0 b1 b2 b3).2.2 i a2
      · rcases sub j a hb with ⟨b1, b2⟩ | ⟨b1, b2, b3⟩
        · exact (w0 a1 a2 a3).2.2 j b2
        · exact s.dj _ _ a (by omega) a3 b3
    · rcases sub i a ha with ⟨a1, a2⟩ | ⟨a1, a2, a3⟩
      · exact s'.sn i a a2
      · exact (w0 a1 a2 a3).2.1
    · rcases sub i a ha with ⟨a1, a2⟩ | ⟨a1, a2, a3⟩
      · exact s'.hn i a a2
      · rw [(w0 a1 a2 a3).1]
        exact s.hn _ a a3
    · exact s'.ws a (by show (if _ then H a else Wd a) ≠ none; rw [hwd a ha]; exact ha)
    · rcases sub i a ha with ⟨a1, a2⟩ | ⟨a1, a2, a3⟩
      · have h9 : (if ∃ i, n ≤ i ∧ i < n + os.length ∧ a ∈ fp i then H a else Wd a) = none := s'.wf i a a2
        split at h9
        · rename_i q
          obtain ⟨j, _, _, q⟩ := q
          exact s.wf j a q
        · exact h9
      · exact s.wf _ a a3
def Smo (K : PySem.W.Frag) (B Wd : Hp) (os : List O) (vs : List V) (H : Hp) : Prop :=
  ∃ S f, Same B S ∧ Same S H ∧ Same Wd H ∧ Owns K H S os vs f ∧ f.Nodup ∧ (∀ a ∈ f, S a = none ∧ Wd a = none) ∧ ∀ a, Wd a ≠ none → S a = none
theorem owns_of {os : List O} {vs : List V} : ∀ (k : Nat), os.length = vs.length → (∀ i, (fp i).Nodup) → (∀ i j a, i ≠ j → a ∈ fp i → a ∉ fp j) →
    (∀ i o, os[i]? = some o → ∃ v, vs[i]? = some v ∧ Own K H S o v (fp (k + i))) → ∃ f, Owns K H S os vs f ∧ f.Nodup ∧ ∀ a ∈ f, ∃ i, k ≤ i ∧ a ∈ fp i := by
  induction os generalizing vs with
  | nil => intro k hl _ _ _; exact ⟨[], ⟨by cases vs with | nil => rfl | cons => simp at hl, rfl⟩, List.nodup_nil, fun a h => by cases h⟩
  | cons o os ih =>
    intro k hl hn hd ho
    cases vs with
    | nil => simp at hl
    | cons v vs =>
      obtain ⟨f, h1, h2, h3⟩ := ih (vs := vs) (k + 1) (by simpa using hl) hn hd fun i o' e => by
        obtain ⟨v', e1, e2⟩ := ho (i + 1) o' (by simpa using e)
        exact ⟨v', by simpa using e1, by rw [show k + 1 + i = k + (i + 1) by omega]; exact e2⟩
      obtain ⟨v', e1, e2⟩ := ho 0 o (by simp)
      simp at e1
      subst e1
      refine ⟨fp k ++ f, ⟨v, vs, fp k, f, rfl, e2, h1, rfl⟩, ?_, fun a ha => ?_⟩
      · rw [List.nodup_append]
        refine ⟨hn k, h2, fun a ha b hb e => ?_⟩
        subst e
        obtain ⟨i, hi, hm⟩ := h3 a hb
        exact hd k i a (by omega) ha hm
      · rcases List.mem_append.mp ha with ha | ha
        · exact ⟨k, Nat.le_refl _, ha⟩
        · obtain ⟨i, hi, hm⟩ := h3 a ha
          exact ⟨i, by omega, hm⟩
theorem owns_fp {os : List O} : ∀ {vs : List V} {f : List Addr}, Owns K H S os vs f → f.Nodup → ∃ fp : Nat → List Addr, (∀ i, (fp i).Nodup) ∧ (∀ i j a, i ≠ j → a ∈ fp i → a ∉ fp j) ∧ (∀ i a, a ∈ fp i → a ∈ f) ∧
    ∀ i o, os[i]? = some o → ∃ v, vs[i]? = some v ∧ Own K H S o v (fp i) := by
  induction os with
  | nil => intro vs f h hn; exact ⟨fun _ => [], fun _ => List.nodup_nil, fun _ _ _ _ h => (by cases h), fun _ _ h => (by cases h), fun i o e => (by simp at e)⟩
  | cons o os ih =>
    intro vs f h hn
    obtain ⟨v, r, f1, f2, rfl, h2, h3, rfl⟩ := h
    rw [List.nodup_append] at hn
    obtain ⟨n1, n2, n3⟩ := hn
    obtain ⟨fp, a1, a2, a3, a4⟩ := ih h3 n2
    refine ⟨fun i => match i with | 0 => f1 | i + 1 => fp i, fun i => ?_, fun i j a ne ha hb => ?_, fun i a ha => ?_, fun i o' e => ?_⟩
    · cases i with
      | zero => exact n1
      | succ i => exact a1 i
    · cases i with
      | zero =>
        cases j with
        | zero => exact ne rfl
        | succ j => exact n3 a ha a (a3 j a hb) rfl
      | succ i =>
        cases j with
        | zero => exact n3 a hb a (a3 i a ha) rfl
        | succ j => exact a2 i j a (by omega) ha hb
    · cases i with
      | zero => exact List.mem_append_left _ ha
      | succ i => exact List.mem_append_right _ (a3 i a ha)
    · cases i with
      | zero => simp at e; subst e; exact ⟨v, rfl, h2⟩
      | succ i => obtain ⟨w, e1, e2⟩ := a4 i o' (by simpa using e); exact ⟨w, by simpa using e1, e2⟩
theorem Sim.smo {os : List O} {vs : List V} (h : Sim K B Wd (os.map some) (vs.map some) H) : Smo K B Wd os vs H := by
  obtain ⟨S, fp, s⟩ := h
  obtain ⟨f, h1, h2, h3⟩ := owns_of (K := K) (H := H) (S := S) (os := os) (vs := vs) 0 (by have := s.len; simpa using this) s.nd s.dj fun i o e => by
    obtain ⟨v, e1, e2⟩ := s.own i o (by rw [List.getElem?_map, e]; rfl)
    rw [List.getElem?_map] at e1
    cases q : vs[i]? with
    | none => rw [q] at e1; cases e1
    | some w => rw [q] at e1; cases e1; exact ⟨_, rfl, by rw [Nat.zero_add]; exact e2⟩
  exact ⟨S, f, s.bs, s.sh, s.wd, h1, h2, fun a ha => let ⟨i, _, hm⟩ := h3 a ha; ⟨s.sn i a hm, s.wf i a hm⟩, s.ws⟩
theorem Smo.sim {os : List O} {vs : List V} (h : Smo K B Wd os vs H) : Sim K B Wd (os.map some) (vs.map some) H := by
  obtain ⟨S, f, h1, h2, h3, h4, h5, h6, h7⟩ := h
  obtain ⟨fp, a1, a2, a3, a4⟩ := owns_fp h4 h5
  refine ⟨S, fp, h1, h2, h3, by simp [(Owns.len h4).1], fun i o e => ?_, a1, a2, fun i a ha => (h6 a (a3 i a ha)).1, fun i a ha => h4.there a (a3 i a ha), h7, fun i a ha => (h6 a (a3 i a ha)).2⟩
  rw [List.getElem?_map] at e
  cases q : os[i]? with
  | none => rw [q] at e; cases e
  | some w =>
    rw [q] at e
    cases e
    obtain ⟨v, e1, e2⟩ := a4 i _ q
    exact ⟨v, by rw [List.getElem?_map, e1]; rfl, e2⟩
/-- the rule for a change of the front: by stacks of values -/
theorem Sim.front {as : List O} {va : List V} (hl : as.length = va.length) (h : Sim K B Wd (as.map some ++ os) (va.map some ++ vs) H) :
    ∃ B' Wd', Same B B' ∧ Smo K B' Wd' as va H ∧ ∀ as' va' H', Smo K B' Wd' as' va' H' → Sim K B Wd (as'.map some ++ os) (va'.map some ++ vs) H' := by
  obtain ⟨B', Wd', h0, h1, h2⟩ := Sim.frame (as := as.map some) (va := va.map some) (by simpa using hl) h
  exact ⟨B', Wd', h0, h1.smo, fun as' va' H' s => h2 _ _ _ s.sim⟩
theorem Smo.self {os : List O} {vs : List V} (h : Smo K B Wd os vs H) : ∃ S, Same B S ∧ Same S H ∧ Smo K S Wd os vs H := by
  obtain ⟨S, f, h1, h2, h3, h4, h5, h6, h7⟩ := h
  exact ⟨S, h1, h2, S, f, Same.refl _, h2, h3, h4, h5, h6, h7⟩
theorem Smo.len {os : List O} {vs : List V} (h : Smo K B Wd os vs H) : os.length = vs.length := by
  obtain ⟨S, f, h1, h2, h3, h4, h5, h6, h7⟩ := h
  exact (Owns.len h4).1
/-- shared all -/
theorem Smo.frz {os : List O} {vs : List V} (h : Smo K B Wd os vs H) : Smo K B Wd ((O.ts os).map .sh) vs H := by
  obtain ⟨S, f, h1, h2, h3, h4, h5, h6, h7⟩ := h
  have e : Same S (fun a => if a ∈ f then H a else S a) := fun a o q => by
    show (if a ∈ f then H a else S a) = some o
    split
    · exact h2 a o q
    · exact q
  refine ⟨fun a => if a ∈ f then H a else S a, [], h1.trans e, fun a o q => ?_, h3, Owns.sh (h4.frz e fun a ha => if_pos ha), List.nodup_nil, fun a ha => (by cases ha), fun a ha => ?_⟩
  · have q' : (if a ∈ f then H a else S a) = some o := q
    split at q'
    · exact q'
    · exact h2 a o q'
  · show (if a ∈ f then H a else S a) = none
    split
    · rename_i q
      exact absurd (h6 a q).2 ha
    · exact h7 a ha
theorem Smo.reps {ts : List T} {vs : List V} (h : Smo K B Wd (ts.map .sh) vs H) : ∃ S, Same B S ∧ Same S H ∧ Reps K S ts vs := by
  obtain ⟨S, f, h1, h2, h3, h4, h5, h6, h7⟩ := h
  have := h4.frz (S' := fun a => if a ∈ f then H a else S a) (fun a o q => by
    show (if a ∈ f then H a else S a) = some o
    split
    · exact h2 a o q
    · exact q) fun a ha => if_pos ha
  rw [O.ts_sh] at this
  refine ⟨_, fun a o q => ?_, fun a o q => ?_, this⟩
  · show (if a ∈ f then H a else S a) = some o
    split
    · exact h2 a o (h1 a o q)
    · exact h1 a o q
  · have q' : (if a ∈ f then H a else S a) = some o := q
    split at q'
    · exact q'
    · exact h2 a o q'
/-- a new object for the whole stack -/
theorem Smo.new {os : List O} {vs : List V} {p : Addr} {ho : HO} {o : O} (h : Smo K B Wd os vs H) (hp : H p = none)
    (ow : ∀ H' S f, Owns K H' S os vs f → H' p = some ho → Own K H' S o (.ref p) (p :: f)) : Smo K B Wd [o] [.ref p] (upd H p ho) := by
  obtain ⟨S, f, h1, h2, h3, h4, h5, h6, h7⟩ := h
  have e : Same H (upd H p ho) := fun a u q => by rw [upd_ne (ne_of_none q hp)]; exact q
  have hf : p ∉ f := fun z => h4.there p z hp
  have sp : S p = none := h2.free hp
  have wp : Wd p = none := h3.free hp
  refine ⟨S, p :: f, h1, h2.trans e, h3.trans e, Owns.one (ow _ _ f (h4.mono (Same.refl _) fun a ha => upd_ne fun z => hf (z ▸ ha)) upd_same), List.nodup_cons.mpr ⟨hf, h5⟩, fun a ha => ?_, h7⟩
  rcases List.mem_cons.mp ha with rfl | ha
  · exact ⟨sp, wp⟩
  · exact h6 a ha
theorem Smo.newL {os : List O} {vs : List V} {p : Addr} (h : Smo K B Wd os vs H) (hp : H p = none) : Smo K B Wd [.lst os] [.ref p] (upd H p (.lst vs)) :=
  h.new hp fun H' S f ow e => ⟨p, vs, f, rfl, e, ow, rfl⟩
/-- a new shared object -/
theorem Smo.newS {ts : List T} {vs : List V} {p : Addr} {ho : HO} {t : T} (h : Smo K B Wd (ts.map .sh) vs H) (hp : H p = none)
    (ow : ∀ S, Reps K S ts vs → S p = some ho → Rep K S t (.ref p)) : Smo K B Wd [.sh t] [.ref p] (upd H p ho) := by
  obtain ⟨S, f, h1, h2, h3, h4, h5, h6, h7⟩ := h
  have e : Same H (upd H p ho) := fun a u q => by rw [upd_ne (ne_of_none q hp)]; exact q
  have sp : S p = none := h2.free hp
  have wp : Wd p = none := h3.free hp
  have eS : Same S (fun a => if a ∈ f then H a else S a) := fun a o q => by
    show (if a ∈ f then H a else S a) = some o
    split
    · exact h2 a o q
    · exact q
  have r := h4.frz eS fun a ha => if_pos ha
  rw [O.ts_sh] at r
  have hf : p ∉ f := fun z => h4.there p z hp
  have e2 : Same (fun a => if a ∈ f then H a else S a) (upd (fun a => if a ∈ f then H a else S a) p ho) := fun a u q => by
    rw [upd_ne]
    · exact q
    · intro z
      rw [z] at q
      try dsimp only at q
      rw [if_neg hf, sp] at q
      cases q
  refine ⟨upd (fun a => if a ∈ f then H a else S a) p ho, [], (h1.trans eS).trans e2, fun a u q => ?_, h3.trans e, Owns.one ⟨rfl, ow _ (r.mono e2) upd_same⟩, List.nodup_nil, fun a ha => (by cases ha), fun a ha => ?_⟩
  · by_cases z : a = p
    · subst z
      rw [upd_same] at q ⊢
      exact q
    · rw [upd_ne z] at q ⊢
      try dsimp only at q
      split at q
      · exact q
      · exact h2 a u q
  · have z : a ≠ p := fun z => ha (z ▸ wp)
    rw [upd_ne z]
    try dsimp only
    split
    · rename_i q
      exact absurd (h6 a q).2 ha
    · exact h7 a ha
theorem Smo.newT {os : List O} {vs : List V} {p : Addr} (h : Smo K B Wd os vs H) (hp : H p = none) : Smo K B Wd [.sh (.tup (O.ts os))] [.ref p] (upd H p (.tup vs)) :=
  h.frz.newS hp fun S r e => ⟨p, vs, rfl, e, r⟩
/-- an owned list is changed: its items and others' -/
theorem Smo.setL {os : List O} {xs : List O} {a : Addr} {va : List V} (h : Smo K B Wd (.lst os :: xs) (.ref a :: va) H) : ∃ vs, H a = some (.lst vs) ∧ os.length = vs.length ∧
    ∀ (os' xs' : List O) (vs' va' : List V), (∀ H' S f g, Same B S → Owns K H' S os vs f → Owns K H' S xs va g → ∃ f' g' r, Owns K H' S os' vs' f' ∧ Owns K H' S xs' va' g' ∧ (f ++ g).Perm (f' ++ g' ++ r)) →
      Smo K B Wd (.lst os' :: xs') (.ref a :: va') (upd H a (.lst vs')) := by
  obtain ⟨S, f, h1, h2, h3, ⟨v, r, f1, f2, e1, ⟨a', vs, fq, e2, e3, e4, e5⟩, e6, e7⟩, h5, h6, h7⟩ := h
  cases e1
  cases e2
  refine ⟨vs, e3, (Owns.len e4).1, fun os' xs' vs' va' hh => ?_⟩
  subst e5 e7
  have hf : a ∉ fq ++ f2 := (List.nodup_cons.mp (by simpa using h5)).1
  have sa := h6 a (by simp)
  have keep : ∀ b ∈ fq ++ f2, upd H a (.lst vs') b = H b := fun b hb => upd_ne fun z => hf (z ▸ hb)
  obtain ⟨f', g', rr, o1, o2, pm⟩ := hh (upd H a (.lst vs')) S fq f2 h1 (e4.mono (Same.refl _) fun b hb => keep b (List.mem_append_left _ hb)) (e6.mono (Same.refl _) fun b hb => keep b (List.mem_append_right _ hb))
  have nd : (a :: (f' ++ g')).Nodup := by
    rw [List.nodup_cons]
    have h5' : (a :: (fq ++ f2)).Nodup := by simpa using h5
    exact ⟨fun z => hf (pm.mem_iff.mpr (List.mem_append_left _ z)), (List.nodup_append.mp (pm.nodup_iff.mp (List.nodup_cons.mp h5').2)).1⟩
  refine ⟨S, a :: (f' ++ g'), h1, fun b u q => ?_, fun b u q => ?_, ⟨_, _, a :: f', g', rfl, ⟨a, vs', f', rfl, upd_same, o1, rfl⟩, o2, by simp⟩, nd, fun b hb => ?_, h7⟩
  · rw [upd_ne fun z => by rw [z, sa.1] at q; cases q]
    exact h2 b u q
  · rw [upd_ne fun z => by rw [z, sa.2] at q; cases q]
    exact h3 b u q
  · rcases List.mem_cons.mp hb with rfl | hb
    · exact sa
    · exact h6 b (by simp; exact .inr (by simpa using pm.mem_iff.mpr (List.mem_append_left _ hb)))
end
end TL
namespace TL
open PySem PySem.Spec PyProof.Rows L2
/-- what is wanted of an exception: its class, its fields, the slots where it comes up -/
abbrev ZC := Addr → List Str → List T → R → Prop
abbrev XE := R → (O → R → Prop) → ZC → Prop
abbrev XT := R → (Bool → R → Prop) → ZC → Prop
abbrev XA := R → (List O → R → Prop) → ZC → Prop
structure ED where
  nx : R → Prop
  rt : O → R → Prop
  bk : R → Prop := fun _ => False
  ct : R → Prop := fun _ => False
  ex : ZC := fun _ _ _ _ => False
abbrev XS := ED → R → Prop
/-- an exception's end at the slots ρ' -/
def ExAt (K : PySem.W.Frag) (B Wd : Hp) (fr : R) (frv : L2.St) (W : L2.WX) (Z : ZC) (σ : L2.St) : Prop :=
  ∀ C fs ts ρ' d H', Z C fs ts ρ' → Sim K B Wd (some (.sh (.xd fs ts)) :: (fr ++ ρ')) (some (.ref d) :: (frv ++ σ)) H' → W (.ref C) (some d) σ H'
def lE (K : PySem.W.Frag) (W : L2.WX) (x : XE) : TE := fun σ H Q => ∃ B Wd fr frv ρ K0 Z0, fr.length = frv.length ∧ Sim K B Wd (fr ++ ρ) (frv ++ σ) H ∧ x ρ K0 Z0 ∧
  (∀ o ρ' v H', K0 o ρ' → Sim K B Wd (some o :: (fr ++ ρ')) (some v :: (frv ++ σ)) H' → Q v H') ∧ ExAt K B Wd fr frv W Z0 σ
def lT (K : PySem.W.Frag) (W : L2.WX) (x : XT) : TT := fun σ H Q => ∃ B Wd fr frv ρ K0 Z0, fr.length = frv.length ∧ Sim K B Wd (fr ++ ρ) (frv ++ σ) H ∧ x ρ K0 Z0 ∧
  (∀ b ρ' H', K0 b ρ' → Sim K B Wd (fr ++ ρ') (frv ++ σ) H' → Q b H') ∧ ExAt K B Wd fr frv W Z0 σ
def lA (K : PySem.W.Frag) (W : L2.WX) (x : XA) : TA := fun σ H Q => ∃ B Wd fr frv ρ K0 Z0, fr.length = frv.length ∧ Sim K B Wd (fr ++ ρ) (frv ++ σ) H ∧ x ρ K0 Z0 ∧
  (∀ os ρ' vs H', os.length = vs.length → K0 os ρ' → Sim K B Wd (os.map some ++ (fr ++ ρ')) (vs.map some ++ (frv ++ σ)) H' → Q vs H') ∧ ExAt K B Wd fr frv W Z0 σ
def lS (K : PySem.W.Frag) (W : L2.WX) (x : XS) : TS := fun D σ H => ∃ B Wd fr frv ρ D0, fr.length = frv.length ∧ Sim K B Wd (fr ++ ρ) (frv ++ σ) H ∧ x D0 ρ ∧
  (∀ ρ' σ' H', D0.nx ρ' → Sim K B Wd (fr ++ ρ') (frv ++ σ') H' → D.nx σ' H') ∧ (∀ ρ' σ' H', D0.bk ρ' → Sim K B Wd (fr ++ ρ') (frv ++ σ') H' → D.bk σ' H') ∧
  (∀ ρ' σ' H', D0.ct ρ' → Sim K B Wd (fr ++ ρ') (frv ++ σ') H' → D.ct σ' H') ∧ (∀ o ρ' v σ' H', D0.rt o ρ' → Sim K B Wd (some o :: (fr ++ ρ')) (some v :: (frv ++ σ')) H' → D.rt v H') ∧
  (∀ σ', ExAt K B Wd fr frv W D0.ex σ')
def PEt (X : Cx) (W : L2.WX) (e : Expr) (x : XE) : Prop := PE X e (lE X.K W x)
def PTt (X : Cx) (W : L2.WX) (e : Expr) (x : XT) : Prop := PT X e (lT X.K W x)
def PWt (X : Cx) (W : L2.WX) (e : Expr) (x : XT) : Prop := PW X e (lT X.K W x)
def PAt (X : Cx) (W : L2.WX) (es : List Expr) (x : XA) : Prop := PA X es (lA X.K W x)
def PSt (X : Cx) (W : L2.WX) (s : Stmt) (x : XS) : Prop := PS X s (lS X.K W x)
def PSst (X : Cx) (W : L2.WX) (s : List Stmt) (x : XS) : Prop := PSs X s (lS X.K W x)
theorem PE.imp {X : Cx} {e : Expr} {t t' : TE} (h : PE X e t) (i : ∀ σ H Q, t' σ H Q → t σ H Q) : PE X e t' := ⟨fun pins s σ H Q I q => h.run pins s σ H Q I (i σ H Q q)⟩
theorem PT.imp {X : Cx} {e : Expr} {t t' : TT} (h : PT X e t) (i : ∀ σ H Q, t' σ H Q → t σ H Q) : PT X e t' := ⟨fun pins s σ H Q I q => h.run pins s σ H Q I (i σ H Q q)⟩
theorem PW.imp {X : Cx} {e : Expr} {t t' : TT} (h : PW X e t) (i : ∀ σ H Q, t' σ H Q → t σ H Q) : PW X e t' := ⟨fun wh pins s σ H Q I q => h.run wh pins s σ H Q I (i σ H Q q)⟩
theorem PA.imp {X : Cx} {es : List Expr} {t t' : TA} (h : PA X es t) (i : ∀ σ H Q, t' σ H Q → t σ H Q) : PA X es t' := ⟨fun pos pins s σ H Q I q => h.run pos pins s σ H Q I (i σ H Q q)⟩
theorem PS.imp {X : Cx} {e : Stmt} {t t' : TS} (h : PS X e t) (i : ∀ D σ H, t' D σ H → t D σ H) : PS X e t' := ⟨fun pins s σ H D I q => h.run pins s σ H D I (i D σ H q)⟩
theorem PSs.imp {X : Cx} {e : List Stmt} {t t' : TS} (h : PSs X e t) (i : ∀ D σ H, t' D σ H → t D σ H) : PSs X e t' := ⟨fun pins s σ H D I q => h.run pins s σ H D I (i D σ H q)⟩
theorem PG.imp {X : Cx} {e : Expr} {t t' : TG} (h : PG X e t) (i : ∀ v σ H Q, t' v σ H Q → t v σ H Q) : PG X e t' := ⟨fun pins s σ H v u Q I r q => h.run pins s σ H v u Q I r (i v σ H Q q)⟩
def frzA (ρ : R) : R := ρ.map (Option.map fun o => .sh o.t)
theorem frzA_len (ρ : R) : (frzA ρ).length = ρ.length := List.length_map _
section
variable {K : PySem.W.Frag} {B Wd H S : Hp} {os : R} {vs : L2.St} {fp : Nat → List Addr} {o : O} {v : V} {i : Nat} {t : T}
/-- everything shared for a while, then the old slots again -/
theorem Sim.bor (h : Sim K B Wd os vs H) : ∃ S', Same B S' ∧ Same S' H ∧ Sim K S' Wd (frzA os) vs H ∧ ∀ os' vs' H', Sim K S' Wd os' vs' H' → Sim K B Wd os vs H' := by
  obtain ⟨S, fp, s⟩ := h
  classical
  have e : Same S (fun a => if ∃ i, a ∈ fp i then H a else S a) := fun a o q => by
    show (if _ then H a else S a) = some o
    split
    · exact s.sh a o q
    · exact q
  have e2 : Same (fun a => if ∃ i, a ∈ fp i then H a else S a) H := fun a o q => by
    have q' : (if ∃ i, a ∈ fp i then H a else S a) = some o := q
    split at q'
    · exact q'
    · exact s.sh a o q'
  refine ⟨fun a => if ∃ i, a ∈ fp i then H a else S a, s.bs.trans e, e2, ⟨_, fun _ => [], Same.refl _, e2, s.wd, (by rw [frzA_len]; exact s.len), fun i o q => ?_, fun _ => List.nodup_nil, fun _ _ _ _ q => (by cases q), fun _ _ q => (by cases q), fun _ _ q => (by cases q), fun a q => ?_, fun _ _ q => (by cases q)⟩, fun os' vs' H' h' => ?_⟩
  · unfold frzA at q
    rw [List.getElem?_map] at q
    cases w : os[i]? with
    | none => rw [w] at q; cases q
    | some u =>
      rw [w] at q
      cases u with
      | none => cases q
      | some o' =>
        cases q
        obtain ⟨v, h1, h2⟩ := s.own i o' w
        exact ⟨v, h1, rfl, h2.frz e fun a ha => if_pos ⟨i, ha⟩⟩
  · rw [if_neg]
    · exact s.ws a q
    · rintro ⟨i, hi⟩
      exact q (s.wf i a hi)
  · obtain ⟨S2, fp2, s2⟩ := h'
    have hS := s2.bs.trans s2.sh
    have agree : ∀ i a, a ∈ fp i → H' a = H a := fun i a ha => by
      cases q : H a with
      | none => exact absurd q (s.hn i a ha)
      | some u => exact hS a u ((if_pos ⟨i, ha⟩).trans q)
    refine ⟨S, fp, s.bs, e.trans hS, s2.wd, s.len, fun i o q => ?_, s.nd, s.dj, s.sn, fun i a ha => (by rw [agree i a ha]; exact s.hn i a ha), s.ws, s.wf⟩
    obtain ⟨v, h1, h2⟩ := s.own i o q
    exact ⟨v, h1, h2.mono (Same.refl _) (agree i)⟩
/-- a flat value needs no heap -/
def T.flat : T → Bool
  | .non => true
  | .bl _ => true
  | .int _ => true
  | .str _ => true
  | .adr _ => true
  | _ => false
theorem Rep.flat (f : T.flat t = true) (h : Rep K S t v) : ∀ S', Rep K S' t v := by
  cases t <;> first
    | exact fun _ => h
    | cases f
theorem Sim.app_len {fr ρ : R} {frv σ : L2.St} (hl : fr.length = frv.length) (h : Sim K B Wd (fr ++ ρ) (frv ++ σ) H) : ρ.length = σ.length := by
  have := h.len
  simp at this
  omega
theorem frzA_app (a b : R) : frzA (a ++ b) = frzA a ++ frzA b := List.map_append
/-- the front slot, shared -/
theorem Sim.rep (h : Sim K B Wd (some o :: os) (some v :: vs) H) : ∃ S, Same B S ∧ Same S H ∧ Rep K S o.t v := by
  obtain ⟨S, h1, h2, h3, _⟩ := h.bor
  obtain ⟨S', fp', s'⟩ := h3
  obtain ⟨v', e1, e2⟩ := s'.own 0 (.sh o.t) rfl
  cases e1
  exact ⟨S', h1.trans s'.bs, s'.sh, e2.2⟩
end
end TL
namespace TL
open PySem PySem.Spec PyProof.Rows L2
section
variable {K : PySem.W.Frag} {B Wd H S : Hp} {os fr : R} {vs frv σ : L2.St} {fp : Nat → List Addr} {o : O} {v : V} {i : Nat} {t : T} {W : L2.WX} {Z : ZC}
theorem Sim.drop2 {a b : Option O} {va vb : Option V} (h : Sim K B Wd (a :: b :: os) (va :: vb :: vs) H) : Sim K B Wd (a :: os) (va :: vs) H :=
  h.via (fun i => if i = 0 then 0 else i + 1) (fun i j _ _ => by split <;> split <;> omega) (by have := h.len; simpa using this) fun i o e => by
    cases i with
    | zero => exact ⟨by simpa using e, fun v q => by simpa using q⟩
    | succ i => exact ⟨by simpa using e, fun v q => by simpa using q⟩
theorem ExAt.push {x : Option O} {y : Option V} (h : ExAt K B Wd fr frv W Z σ) : ExAt K B Wd (x :: fr) (y :: frv) W Z σ :=
  fun C fs ts ρ' d H' hz s => h C fs ts ρ' d H' hz s.drop2
theorem set_id {α : Type} : ∀ {l : List α} {n : Nat} {x : α}, l[n]? = some x → l.set n x = l
  | [], _, _, h => by simp at h
  | a :: l, 0, x, h => by simp at h; simp [h]
  | a :: l, n + 1, x, h => by simp at h; simp [set_id h]
/-- a slot is read and shared -/
theorem Sim.read (h : Sim K B Wd os vs H) {n : Nat} (e : os[n]? = some (some o)) : ∃ v, vs[n]? = some (some v) ∧ Sim K B Wd (some (.sh o.t) :: os.set n (some (.sh o.t))) (some v :: vs) H := by
  obtain ⟨v, hv, h1⟩ := h.pull e
  obtain ⟨B', Wd', _, h2, back⟩ := Sim.front (as := [o]) (va := [v]) rfl h1
  have h3 := h2.frz
  obtain ⟨S, f, a1, a2, a3, a4, a5, a6, a7⟩ := h3
  obtain ⟨w, e1, ow⟩ := Owns.of_one a4
  cases e1
  have rp : Rep K S o.t v := ow.2
  have h4 : Smo K B' Wd' [.sh o.t, .sh o.t] [v, v] H := ⟨S, [], a1, a2, a3, Owns.sh (ts := [o.t, o.t]) ⟨v, [v], rfl, rp, v, [], rfl, rp, rfl⟩, List.nodup_nil, fun _ q => (by cases q), a7⟩
  have h5 := back _ _ _ h4
  have h6 := Sim.put (K := K) (B := B) (Wd := Wd) (os := some (.sh o.t) :: os.set n none) (vs := some v :: vs) (x := some (.sh o.t)) (v := some v) (by simpa using h5) (n + 1)
  refine ⟨v, hv, ?_⟩
  have e2 : (some (O.sh o.t) :: os.set n none).set (n + 1) (some (.sh o.t)) = some (.sh o.t) :: os.set n (some (.sh o.t)) := by simp
  have e3 : (some v :: vs).set (n + 1) (some v) = some v :: vs := by rw [List.set_cons_succ, set_id hv]
  rw [e2, e3] at h6
  exact h6
end
def xName (i : Nat) : XE := fun ρ K _ => match ρ[i]? with
  | some (some (.sh t)) => K (.sh t) ρ
  | some (some o) => K (.sh o.t) (ρ.set i (some (.sh o.t)))
  | _ => False
def xMov (i : Nat) : XE := fun ρ K _ => match ρ[i]? with
  | some (some o) => K o (ρ.set i none)
  | _ => False
def xC (t : T) : XE := fun ρ K _ => K (.sh t) ρ
section
variable {X : Cx} {W : L2.WX} {a b e : Expr} {xa xb x : XE} {pos : Pos}
theorem get_app {α : Type} {fr ρ : List α} (i : Nat) : (fr ++ ρ)[fr.length + i]? = ρ[i]? := by
  rw [List.getElem?_append_right (by omega)]
  congr 1
  omega
theorem set_app {α : Type} {fr ρ : List α} (i : Nat) (y : α) : (fr ++ ρ).set (fr.length + i) y = fr ++ ρ.set i y := by
  rw [List.set_append_right _ _ (by omega)]
  congr 2
  omega
theorem pe_name (i : Nat) {y : Str} {p : Pos} (hN : X.N[i]? = some y := by rfl) (hv : Vis X.env.scope y := by first | exact Or.inl rfl | exact Or.inr (Or.inl rfl) | exact Or.inr (Or.inr rfl)) (hd : (y == ("__debug__" : Str)) = false := by decide)
    (hcd : (y == ("__classdict__" : Str)) = false := by decide) : PEt X W (.Name y p) (xName i) := PE.imp (pe_var (i := i) hN hv hd hcd) fun σ H Q ⟨B, Wd, fr, frv, ρ, K0, Z0, hl, s, hx, hK, hZ⟩ => by
  unfold xName at hx
  have rd : ∀ o, ρ[i]? = some (some o) → (∀ v, Sim X.K B Wd (some (.sh o.t) :: (fr ++ ρ.set i (some (.sh o.t)))) (some v :: (frv ++ σ)) H → Q v H) → tVar i σ H Q := fun o e q => by
    obtain ⟨v, h1, h2⟩ := s.read (n := fr.length + i) (o := o) (by rw [get_app]; exact e)
    rw [set_app] at h2
    rw [hl, get_app] at h1
    exact ⟨v, h1, q v h2⟩
  cases e : ρ[i]? with
  | none => rw [e] at hx; exact hx.elim
  | some r =>
    rw [e] at hx
    cases r with
    | none => exact hx.elim
    | some o =>
      cases o with
      | sh t => exact rd _ e fun v h => hK _ _ _ _ hx (by simp only [O.t] at h; rw [set_id e] at h; exact h)
      | _ => exact rd _ e fun v h => hK _ _ _ _ hx h
theorem pe_mov (i : Nat) {y : Str} {p : Pos} (hN : X.N[i]? = some y := by rfl) (hv : Vis X.env.scope y := by first | exact Or.inl rfl | exact Or.inr (Or.inl rfl) | exact Or.inr (Or.inr rfl)) (hd : (y == ("__debug__" : Str)) = false := by decide)
    (hcd : (y == ("__classdict__" : Str)) = false := by decide) : PEt X W (.Name y p) (xMov i) := PE.imp (pe_var (i := i) hN hv hd hcd) fun σ H Q ⟨B, Wd, fr, frv, ρ, K0, Z0, hl, s, hx, hK, hZ⟩ => by
  unfold xMov at hx
  cases e : ρ[i]? with
  | none => rw [e] at hx; exact hx.elim
  | some r =>
    rw [e] at hx
    cases r with
    | none => exact hx.elim
    | some o =>
      obtain ⟨v, h1, h2⟩ := s.pull (n := fr.length + i) (o := o) (by rw [get_app]; exact e)
      rw [set_app] at h2
      rw [hl, get_app] at h1
      exact ⟨v, h1, hK _ _ _ _ hx h2⟩
theorem pe_con {v : V} {t : T} (h : PE X e (tC v)) (r : ∀ S, Rep X.K S t v) : PEt X W e (xC t) := PE.imp h fun σ H Q ⟨B, Wd, fr, frv, ρ, K0, Z0, hl, s, hx, hK, hZ⟩ => hK _ _ _ _ hx (s.push r)
theorem pe_int {i j} : PEt X W (.Constant (.int i) j pos) (xC (.int i)) := pe_con L2.pe_int fun _ => rfl
theorem pe_bl {k j} : PEt X W (.Constant (.bool k) j pos) (xC (.bl k)) := pe_con L2.pe_bl fun _ => rfl
theorem pe_non {j} : PEt X W (.Constant .none j pos) (xC .non) := pe_con L2.pe_non fun _ => rfl
theorem pe_str {y j} : PEt X W (.Constant (.str y) j pos) (xC (.str y)) := pe_con L2.pe_str fun _ => rfl
/-- a module's constant -/
theorem pe_glob {y : Str} {u : Value} {v : V} {t : T} (hg : Gl X y) (hm : X.mg y = some u) (r : RelV v u) (rt : ∀ S, Rep X.K S t v) (hd : (y == ("__debug__" : Str)) = false := by decide) : PEt X W (.Name y pos) (xC t) := pe_con (L2.pe_glob hg hm r hd) rt
def x2 (g : T → T → (O → Prop) → Prop) (xa xb : XE) : XE := fun ρ K Z => xa ρ (fun oa ρ1 => xb ρ1 (fun ob ρ2 => g oa.t ob.t fun o => K o ρ2) Z) Z
def x2T (g : T → T → (Bool → Prop) → Prop) (xa xb : XE) : XT := fun ρ K Z => xa ρ (fun oa ρ1 => xb ρ1 (fun ob ρ2 => g oa.t ob.t fun o => K o ρ2) Z) Z
/-- the rule r, told of trees -/
def Op2 (X : Cx) (r : R2) (g : T → T → (O → Prop) → Prop) : Prop := ∀ B Wd H tx ty vx vy K0 Q, Smo X.K B Wd [.sh ty, .sh tx] [vy, vx] H → g tx ty K0 → (∀ o v H', K0 o → Smo X.K B Wd [o] [v] H' → Q v H') → r vx vy H Q
theorem op2_core {r : R2} {g : T → T → (O → Prop) → Prop} (ht : Op2 X r g) {σ : L2.St} {H : Hp} {Q : VK} (h : lE X.K W (x2 g xa xb) σ H Q) : tOp r (lE X.K W xa) (lE X.K W xb) σ H Q := by
  obtain ⟨B, Wd, fr, frv, ρ, K0, Z0, hl, s, hx, hK, hZ⟩ := h
  refine ⟨B, Wd, fr, frv, ρ, _, Z0, hl, s, hx, fun oa ρ1 va H1 k1 s1 => ⟨B, Wd, some oa :: fr, some va :: frv, ρ1, _, Z0, by simp [hl], s1, k1, fun ob ρ2 vb H2 k2 s2 => ?_, hZ.push⟩, hZ⟩
  obtain ⟨B', Wd', _, h2, back⟩ := Sim.front (as := [ob, oa]) (va := [vb, va]) rfl s2
  exact ht B' Wd' H2 oa.t ob.t va vb _ Q h2.frz k2 fun o v H' ko so => hK o ρ2 v H' ko (by simpa using back _ _ _ so)
theorem pe_bin {op : Operator} {r : R2} {g : T → T → (O → Prop) → Prop} (ho : OpR X (binaryOp op) r) (ht : Op2 X r g) (ha : PEt X W a xa) (hb : PEt X W b xb) : PEt X W (.BinOp a op b pos) (x2 g xa xb) :=
  PE.imp (pe_op ho ha hb) fun σ H Q h => op2_core ht h
theorem pe_cmp {op : CmpOp} {r : R2} {g : T → T → (O → Prop) → Prop} (ho : OpR X (compareOp op) r) (ht : Op2 X r g) (ha : PEt X W a xa) (hb : PEt X W b xb) (hm : behindInMarks op b = false) : PEt X W (.Compare a [op] [b] pos) (x2 g xa xb) :=
  PE.imp (pe_cmpR ho ha hb hm) fun σ H Q h => op2_core ht h
theorem pe_ix {r : R2} {g : T → T → (O → Prop) → Prop} (ho : IxR X r) (ht : Op2 X r g) (ha : PEt X W a xa) (hb : PEt X W b xb) (hs : PlainIx b) : PEt X W (.Subscript a b pos) (x2 g xa xb) :=
  PE.imp (L2.pe_ix ho ha hb hs) fun σ H Q h => op2_core ht h
def gB (g : T → T → (Bool → Prop) → Prop) : T → T → (O → Prop) → Prop := fun x y Q => g x y fun b => Q (.sh (.bl b))
theorem pt_cmp {op : CmpOp} {r : R2} {g : T → T → (Bool → Prop) → Prop} (ho : OpR X (compareOp op) r) (ht : Op2 X r (gB g)) (ha : PEt X W a xa) (hb : PEt X W b xb) (hm : behindInMarks op b = false) : PTt X W (.Compare a [op] [b] pos) (x2T g xa xb) :=
  PT.imp (pt_cmpR ho ha hb hm) fun σ H Q h => by
    obtain ⟨B, Wd, fr, frv, ρ, K0, Z0, hl, s, hx, hK, hZ⟩ := h
    refine op2_core (W := W) ht (Q := fun z H3 => ∃ k, z = .bl k ∧ Q k H3) ⟨B, Wd, fr, frv, ρ, fun o ρ' => ∃ k, o = .sh (.bl k) ∧ K0 k ρ', Z0, hl, s, ?_, fun o ρ' v H' q s' => ?_, hZ⟩
    · have e : x2 (gB g) xa xb ρ (fun o ρ' => ∃ k, o = .sh (.bl k) ∧ K0 k ρ') Z0 = xa ρ (fun oa ρ1 => xb ρ1 (fun ob ρ2 => g oa.t ob.t fun k => ∃ k', O.sh (.bl k) = .sh (.bl k') ∧ K0 k' ρ2) Z0) Z0 := rfl
      rw [e]
      have e2 : ∀ ρ2 : R, (fun k : Bool => ∃ k', O.sh (.bl k) = .sh (.bl k') ∧ K0 k' ρ2) = fun k => K0 k ρ2 := fun ρ2 => funext fun k => propext ⟨fun ⟨k', e, q⟩ => by cases e; exact q, fun q => ⟨k, rfl, q⟩⟩
      have e3 : (fun (oa : O) (ρ1 : R) => xb ρ1 (fun ob ρ2 => g oa.t ob.t fun k => ∃ k', O.sh (.bl k) = .sh (.bl k') ∧ K0 k' ρ2) Z0) = fun oa ρ1 => xb ρ1 (fun ob ρ2 => g oa.t ob.t fun k => K0 k ρ2) Z0 := by
        funext oa ρ1
        congr 1
        funext ob ρ2
        rw [e2]
      rw [e3]
      exact hx
    · obtain ⟨k, rfl, q⟩ := q
      obtain ⟨S, _, _, rp⟩ := s'.rep
      have rv : v = .bl k := rp
      exact ⟨k, rv, hK _ _ _ q s'.drop⟩
end
end TL
namespace TL
open PySem PySem.Spec PyProof.Rows L2
section
variable {K : PySem.W.Frag} {B Wd H S : Hp} {os : List O} {vs : List V} {o : O} {v : V} {i : Nat} {t : T} {ts : List T}
theorem owns_sh : ∀ {ts : List T} {vs : List V} {f : List Addr}, Owns K H S (ts.map .sh) vs f → f = [] ∧ Reps K S ts vs
  | [], _, _, h => ⟨h.2, h.1⟩
  | t :: ts, _, _, h => by
    obtain ⟨v, r, f1, f2, rfl, ⟨rfl, h2⟩, h3, rfl⟩ := h
    obtain ⟨rfl, h4⟩ := owns_sh h3
    exact ⟨rfl, v, r, rfl, h2, h4⟩
/-- what a stack of shared values says -/
theorem Smo.get (h : Smo K B Wd (ts.map .sh) vs H) : ∃ S, Same B S ∧ Same S H ∧ Reps K S ts vs ∧ ∀ ts' vs', Reps K S ts' vs' → Smo K B Wd (ts'.map .sh) vs' H := by
  obtain ⟨S, f, h1, h2, h3, h4, h5, h6, h7⟩ := h
  obtain ⟨rfl, r⟩ := owns_sh h4
  exact ⟨S, h1, h2, r, fun ts' vs' r' => ⟨S, [], h1, h2, h3, Owns.sh r', h5, h6, h7⟩⟩
theorem Smo.get2 {tx ty : T} {vx vy : V} (h : Smo K B Wd [.sh ty, .sh tx] [vy, vx] H) : ∃ S, Same B S ∧ Same S H ∧ Rep K S tx vx ∧ Rep K S ty vy ∧ ∀ ts' vs', Reps K S ts' vs' → Smo K B Wd (ts'.map .sh) vs' H := by
  obtain ⟨S, h1, h2, ⟨v1, r1, e1, p1, v2, r2, e2, p2, _⟩, h4⟩ := Smo.get (ts := [ty, tx]) h
  cases e1
  cases e2
  exact ⟨S, h1, h2, p2, p1, h4⟩
theorem Smo.get1 {tx : T} {vx : V} (h : Smo K B Wd [.sh tx] [vx] H) : ∃ S, Same B S ∧ Same S H ∧ Rep K S tx vx ∧ ∀ ts' vs', Reps K S ts' vs' → Smo K B Wd (ts'.map .sh) vs' H := by
  obtain ⟨S, h1, h2, ⟨v1, r1, e1, p1, _⟩, h4⟩ := Smo.get (ts := [tx]) h
  cases e1
  exact ⟨S, h1, h2, p1, h4⟩
theorem Smo.flat (h : Smo K B Wd os vs H) (r : ∀ S, Rep K S t v) : Smo K B Wd [.sh t] [v] H := by
  obtain ⟨S, f, h1, h2, h3, h4, h5, h6, h7⟩ := h
  exact ⟨S, [], h1, h2, h3, Owns.sh (ts := [t]) ⟨v, [], rfl, r S, rfl⟩, List.nodup_nil, fun _ q => (by cases q), h7⟩
theorem reps1 (h : Rep K S t v) : Reps K S [t] [v] := ⟨v, [], rfl, h, rfl⟩
end
def addT : T → T → (O → Prop) → Prop
  | .int i, .int j, Q => Q (.sh (.int (i + j)))
  | .str a, .str b, Q => a.length + b.length ≤ sizeLine ∧ Q (.sh (.str (a ++ b)))
  | .lst a, .lst b, Q => a.length + b.length ≤ sizeLine ∧ Q (.lst ((a ++ b).map .sh))
  | .tup a, .tup b, Q => a.length + b.length ≤ sizeLine ∧ Q (.sh (.tup (a ++ b)))
  | _, _, _ => False
def subT : T → T → (O → Prop) → Prop
  | .int i, .int j, Q => Q (.sh (.int (i - j)))
  | _, _, _ => False
def mulT : T → T → (O → Prop) → Prop
  | .int i, .int j, Q => (CMul i j ∨ CMulW i j) ∧ Q (.sh (.int (i * j)))
  | .lst a, .int k, Q => -(2 ^ 63) ≤ k ∧ k < 2 ^ 63 ∧ a.length * k.toNat ≤ sizeLine ∧ Q (.lst ((List.replicate k.toNat a).flatten.map .sh))
  | _, _, _ => False
def divT : T → T → (O → Prop) → Prop
  | .int i, .int j, Q => CDivW i j ∧ Q (.sh (.int (i / j)))
  | _, _, _ => False
def modT : T → T → (O → Prop) → Prop
  | .int i, .int j, Q => 0 < j ∧ Q (.sh (.int (i % j)))
  | _, _, _ => False
def powT : T → T → (O → Prop) → Prop
  | .int i, .int j, Q => (0 ≤ j ∧ (Builtin.Int.intBits i : Int) * j ≤ 2 ^ 27) ∧ Q (.sh (.int (i ^ j.toNat)))
  | _, _, _ => False
section
variable {X : Cx}
theorem OpR.imp {f : Value → Value → Sem Value} {r r' : R2} (h : OpR X f r) (i : ∀ x y H Q, r' x y H Q → r x y H Q) : OpR X f r' := fun pins s σ H x y v u Q I rx ry q => h pins s σ H x y v u Q I rx ry (i _ _ _ _ q)
abbrev rAddT (K : PySem.W.Frag) : R2 := fun x y H Q => rI0 (fun i j => .int (i + j)) x y H Q ∨ (∃ i j, x = .str i ∧ y = .str j ∧ i.length + j.length ≤ sizeLine ∧ Q (.str (i ++ j)) H) ∨ rCat x y H Q ∨ rCatA K x y H Q
theorem op_addT : OpR X (binaryOp .Add) (rAddT X.K) := op_add.or (op_add_str.or (op_cat.or op_catA))
theorem addT_ok : Op2 X (rAddT X.K) addT := by
  intro B Wd H tx ty vx vy K0 Q h g hQ
  obtain ⟨S, h1, h2, rx, ry, back⟩ := h.get2
  cases tx <;> cases ty <;> first
    | exact (show False from g).elim
    | skip
  · exact .inl ⟨_, _, rx, ry, hQ _ _ _ g (h.flat fun _ => rfl)⟩
  · exact .inr (.inl ⟨_, _, rx, ry, g.1, hQ _ _ _ g.2 (h.flat fun _ => rfl)⟩)
  · obtain ⟨a, va, rfl, ha, ra⟩ := rx
    obtain ⟨b, vb, rfl, hb, rb⟩ := ry
    have la := ra.len
    have lb := rb.len
    refine .inr (.inr (.inr ⟨a, b, va, vb, rfl, rfl, SqT.of (h2 _ _ ha), SqT.of (h2 _ _ hb), by rw [← la, ← lb]; exact g.1, fun e => ?_, fun e e' => ?_, fun _ _ p hp => ?_⟩))
    · subst e
      have e0 := List.eq_nil_of_length_eq_zero la
      subst e0
      exact hQ _ _ _ g.2 (back [_] [_] (reps1 ⟨b, vb, rfl, hb, rb⟩))
    · subst e'
      have e0 := List.eq_nil_of_length_eq_zero lb
      subst e0
      exact hQ _ _ _ g.2 (back [_] [_] (reps1 ⟨a, va, rfl, ha, by rw [List.append_nil]; exact ra⟩))
    · exact hQ _ _ _ g.2 ((back _ _ (ra.app rb)).newS hp fun S r e => ⟨p, _, rfl, e, r⟩)
  · obtain ⟨a, va, rfl, ha, ra⟩ := rx
    obtain ⟨b, vb, rfl, hb, rb⟩ := ry
    have la := ra.len
    have lb := rb.len
    exact .inr (.inr (.inl ⟨a, b, va, vb, rfl, rfl, h2 _ _ ha, h2 _ _ hb, by rw [← la, ← lb]; exact g.1, fun p hp => hQ _ _ _ g.2 ((back _ _ (ra.app rb)).newL hp)⟩))
theorem int_ok {C : Int → Int → Prop} {f : Int → Int → Int} {g : T → T → (O → Prop) → Prop} (hg : ∀ x y Q, g x y Q → ∃ i j, x = .int i ∧ y = .int j ∧ C i j ∧ Q (.sh (.int (f i j)))) : Op2 X (rI C fun i j => .int (f i j)) g := by
  intro B Wd H tx ty vx vy K0 Q h g0 hQ
  obtain ⟨S, h1, h2, rx, ry, back⟩ := h.get2
  obtain ⟨i, j, rfl, rfl, c, q⟩ := hg _ _ _ g0
  exact ⟨i, j, rx, ry, c, hQ _ _ _ q (h.flat fun _ => rfl)⟩
theorem op_sub1 : OpR X (binaryOp .Sub) (rI (fun _ _ => True) fun i j => .int (i - j)) := OpR.imp op_sub fun _ _ _ _ ⟨i, j, e1, e2, _, q⟩ => ⟨i, j, e1, e2, q⟩
theorem subT_ok : Op2 X (rI (fun _ _ => True) fun i j => .int (i - j)) subT := int_ok fun x y Q h => by
  cases x <;> cases y <;> first
    | exact (show False from h).elim
    | exact ⟨_, _, rfl, rfl, trivial, h⟩
theorem divT_ok : Op2 X (rI CDivW fun i j => .int (i / j)) divT := int_ok fun x y Q h => by
  cases x <;> cases y <;> first
    | exact (show False from h).elim
    | exact ⟨_, _, rfl, rfl, h.1, h.2⟩
theorem modT_ok : Op2 X (rI (fun _ j => 0 < j) fun i j => .int (i % j)) modT := int_ok fun x y Q h => by
  cases x <;> cases y <;> first
    | exact (show False from h).elim
    | exact ⟨_, _, rfl, rfl, h.1, h.2⟩
theorem op_powB : OpR X (binaryOp .Pow) (rI (fun i j => 0 ≤ j ∧ (Builtin.Int.intBits i : Int) * j ≤ 2 ^ 27) fun i j => .int (i ^ j.toNat)) := opI fun _ _ _ _ _ _ _ hc q => pow_int hc.1 hc.2 q
theorem powT_ok : Op2 X (rI (fun i j => 0 ≤ j ∧ (Builtin.Int.intBits i : Int) * j ≤ 2 ^ 27) fun i j => .int (i ^ j.toNat)) powT := int_ok fun x y Q h => by
  cases x <;> cases y <;> first
    | exact (show False from h).elim
    | exact ⟨_, _, rfl, rfl, h.1, h.2⟩
abbrev rMulT : R2 := fun x y H Q => rI CMul (fun i j => .int (i * j)) x y H Q ∨ rI CMulW (fun i j => .int (i * j)) x y H Q ∨ rRep x y H Q
theorem op_mulT : OpR X (binaryOp .Mult) rMulT := op_mul.or (op_mulW.or op_rep)
theorem Reps.rep {K : PySem.W.Frag} {S : Hp} {ts : List T} {vs : List V} (h : Reps K S ts vs) : ∀ n, Reps K S (List.replicate n ts).flatten (List.replicate n vs).flatten
  | 0 => rfl
  | n + 1 => by
    rw [List.replicate_succ, List.replicate_succ, List.flatten_cons, List.flatten_cons]
    exact h.app (Reps.rep h n)
theorem mulT_ok : Op2 X rMulT mulT := by
  intro B Wd H tx ty vx vy K0 Q h g hQ
  obtain ⟨S, h1, h2, rx, ry, back⟩ := h.get2
  cases tx <;> cases ty <;> first
    | exact (show False from g).elim
    | skip
  · rcases g.1 with c | c
    · exact .inl ⟨_, _, rx, ry, c, hQ _ _ _ g.2 (h.flat fun _ => rfl)⟩
    · exact .inr (.inl ⟨_, _, rx, ry, c, hQ _ _ _ g.2 (h.flat fun _ => rfl)⟩)
  · obtain ⟨a, va, rfl, ha, ra⟩ := rx
    have la := ra.len
    obtain ⟨g1, g2, g3, g4⟩ := g
    exact .inr (.inr ⟨a, _, va, rfl, ry, h2 _ _ ha, g1, g2, by rw [← la]; exact g3, fun p hp => hQ _ _ _ g4 ((back _ _ (ra.rep _)).newL hp)⟩)
def intT (f : Int → Int → Bool) : T → T → (Bool → Prop) → Prop
  | .int i, .int j, Q => Q (f i j)
  | _, _, _ => False
theorem intT_ok {f : Int → Int → Bool} : Op2 X (rI0 fun i j => .bl (f i j)) (gB (intT f)) := by
  intro B Wd H tx ty vx vy K0 Q h g hQ
  obtain ⟨S, h1, h2, rx, ry, back⟩ := h.get2
  cases tx <;> cases ty <;> first
    | exact (show False from g).elim
    | exact ⟨_, _, rx, ry, hQ _ _ _ g (h.flat fun _ => rfl)⟩
mutual
def T.d : T → PyData
  | .bl b => .bool b
  | .int i => .int i
  | .str x => .str x
  | .tup xs => .tuple (T.ds xs)
  | .lst xs => .list (T.ds xs)
  | .ktp xs => .tuple (T.ds xs)
  | .kls xs => .list (T.ds xs)
  | _ => .none
def T.ds : List T → List PyData
  | [] => []
  | x :: xs => T.d x :: T.ds xs
end
mutual
def T.isD : T → Bool
  | .non => true
  | .bl _ => true
  | .int _ => true
  | .str x => PyData.strOk x
  | .tup xs => T.isDs xs
  | .lst xs => T.isDs xs
  | .ktp xs => T.isDs xs
  | .kls xs => T.isDs xs
  | _ => false
def T.isDs : List T → Bool
  | [] => true
  | x :: xs => T.isD x && T.isDs xs
end
mutual
theorem Rep.dp {K : PySem.W.Frag} {S H : Hp} (e : Same S H) : ∀ {t : T} {v : V}, t.isD = true → Rep K S t v → Dp K H v t.d
  | .non, _, _, h => by rw [show _ = V.non from h]; exact .non
  | .bl _, _, _, h => by rw [show _ = V.bl _ from h]; exact .bl _
  | .int _, _, _, h => by rw [show _ = V.int _ from h]; exact .int _
  | .str _, _, _, h => by rw [show _ = V.str _ from h]; exact .str _
  | .tup xs, _, q, h => by
    obtain ⟨a, vs, rfl, h2, h3⟩ := h
    exact .tup (SqT.of (e _ _ h2)) (Reps.dp e q h3)
  | .lst xs, _, q, h => by
    obtain ⟨a, vs, rfl, h2, h3⟩ := h
    exact .lst (SqL.of (e _ _ h2)) (Reps.dp e q h3)
  | .ktp xs, _, q, h => by
    obtain ⟨a, vs, rfl, h2, h3⟩ := h
    exact .tup (SqT.mono e h2) (Reps.dp e q h3)
  | .kls xs, _, q, h => by
    obtain ⟨a, vs, rfl, h2, h3⟩ := h
    exact .lst (Same.seq e h2) (Reps.dp e q h3)
theorem Reps.dp {K : PySem.W.Frag} {S H : Hp} (e : Same S H) : ∀ {ts : List T} {vs : List V}, T.isDs ts = true → Reps K S ts vs → DpAll K H vs (T.ds ts)
  | [], _, _, h => by rw [show _ = [] from h]; exact .nil
  | t :: ts, _, q, h => by
    obtain ⟨v, r, rfl, h2, h3⟩ := h
    have q' : (T.isD t && T.isDs ts) = true := q
    rw [Bool.and_eq_true] at q'
    exact .cons (Rep.dp e q'.1 h2) (Reps.dp e q'.2 h3)
end
mutual
theorem T.can : ∀ {t : T}, t.isD = true → PyData.canLay0 t.d = true
  | .non, _ => by simp [T.d, PyData.canLay0]
  | .bl _, _ => by simp [T.d, PyData.canLay0]
  | .int _, _ => by simp [T.d, PyData.canLay0]
  | .str x, h => by
    simp only [T.d, PyData.canLay0]
    exact h
  | .tup xs, h => by simp only [T.d, PyData.canLay0]; exact T.cans h
  | .lst xs, h => by simp only [T.d, PyData.canLay0]; exact T.cans h
  | .ktp xs, h => by simp only [T.d, PyData.canLay0]; exact T.cans h
  | .kls xs, h => by simp only [T.d, PyData.canLay0]; exact T.cans h
theorem T.cans : ∀ {ts : List T}, T.isDs ts = true → PyData.canLayAll0 (T.ds ts) = true
  | [], _ => by simp [T.ds, PyData.canLayAll0]
  | t :: ts, h => by
    have q' : (T.isD t && T.isDs ts) = true := h
    rw [Bool.and_eq_true] at q'
    simp only [T.ds, PyData.canLayAll0, T.can q'.1, T.cans q'.2, Bool.and_self]
end
/-- == -/
def eqT (x y : T) (Q : Bool → Prop) : Prop := (x.isD = true ∧ y.isD = true ∧ x.d.depth ≤ 64 ∧ y.d.depth ≤ 64) ∧ Q (PyData.eqv x.d y.d)
def neT (x y : T) (Q : Bool → Prop) : Prop := eqT x y fun b => Q (!b)
theorem shaped_of {t : T} (h : t.isD = true) (d : t.d.depth ≤ 64) : SeqAt.shaped t.d = true := by
  unfold SeqAt.shaped
  rw [T.can h, decide_eq_true d]
  rfl
theorem eqT_ok : Op2 X (rEqD X.K) (gB eqT) := by
  intro B Wd H tx ty vx vy K0 Q h g hQ
  obtain ⟨S, h1, h2, rx, ry, back⟩ := h.get2
  obtain ⟨⟨dx, dy, hx, hy⟩, g⟩ := g
  exact ⟨_, _, rx.dp h2 dx, ry.dp h2 dy, shaped_of dx hx, shaped_of dy hy, hQ _ _ _ g (h.flat fun _ => rfl)⟩
theorem neT_ok : Op2 X (rNeD X.K) (gB neT) := by
  intro B Wd H tx ty vx vy K0 Q h g hQ
  obtain ⟨S, h1, h2, rx, ry, back⟩ := h.get2
  obtain ⟨⟨dx, dy, hx, hy⟩, g⟩ := g
  exact ⟨_, _, rx.dp h2 dx, ry.dp h2 dy, shaped_of dx hx, shaped_of dy hy, hQ _ _ _ g (h.flat fun _ => rfl)⟩
/-- is None -/
def isNT (x y : T) (Q : Bool → Prop) : Prop := match y with
  | .non => (match x with
    | .non => Q true
    | .adr _ => False
    | _ => Q false)
  | _ => False
def notNT (x y : T) (Q : Bool → Prop) : Prop := isNT x y fun b => Q (!b)
theorem Rep.isN {K : PySem.W.Frag} {S : Hp} {t : T} {v : V} (h : Rep K S t v) {Q : Bool → Prop} (g : isNT t .non Q) : Q (decide (v = .non)) := by
  cases t with
  | non => rw [show v = .non from h]; exact g
  | adr u => exact (show False from g).elim
  | bl _ => rw [show v = .bl _ from h]; exact g
  | int _ => rw [show v = .int _ from h]; exact g
  | str _ => rw [show v = .str _ from h]; exact g
  | exn _ _ _ _ _ => obtain ⟨rfl, _⟩ := h; exact g
  | ins _ _ _ => obtain ⟨a, _, _, rfl, _⟩ := h; exact g
  | _ => obtain ⟨a, _, rfl, _⟩ := h; exact g
theorem isNT_ok : Op2 X (fun x y H Q => y = .non ∧ Q (.bl (decide (x = .non))) H) (gB isNT) := by
  intro B Wd H tx ty vx vy K0 Q h g hQ
  obtain ⟨S, h1, h2, rx, ry, back⟩ := h.get2
  cases ty <;> first
    | exact (show False from g).elim
    | exact ⟨ry, hQ _ _ _ (rx.isN (Q := fun b => K0 (.sh (.bl b))) g) (h.flat fun _ => rfl)⟩
theorem notNT_ok : Op2 X (fun x y H Q => y = .non ∧ Q (.bl (!decide (x = .non))) H) (gB notNT) := by
  intro B Wd H tx ty vx vy K0 Q h g hQ
  obtain ⟨S, h1, h2, rx, ry, back⟩ := h.get2
  cases ty <;> first
    | exact (show False from g).elim
    | exact ⟨ry, hQ _ _ _ (rx.isN (Q := fun b => K0 (.sh (.bl (!b)))) g) (h.flat fun _ => rfl)⟩
def T.key : T → Option Key
  | .int i => some (.inl i)
  | .str x => some (.inr x)
  | _ => none
def T.keys : List T → Option (List Key)
  | [] => some []
  | t :: ts => t.key.bind fun k => (T.keys ts).map fun ks => k :: ks
def lookT {κ : Type} [DecidableEq κ] (ks : List κ) (xs : List T) (k : κ) : Option T := (ks.zip xs).lookup k
def inT (x y : T) (Q : Bool → Prop) : Prop := match y with
  | .lst ts => (x.isD = true ∧ T.isDs ts = true ∧ x.d.depth ≤ 64 ∧ PyData.depthAll (T.ds ts) ≤ 63) ∧ Q (ts.any fun z => PyData.eqv z.d x.d)
  | .tup ts => (x.isD = true ∧ x.flat = true ∧ ts.all (fun z => z.isD && z.flat) = true) ∧ Q (ts.any fun z => PyData.eqv z.d x.d)
  | .ktp ts => (x.isD = true ∧ x.flat = true ∧ ts.all (fun z => z.isD && z.flat) = true) ∧ Q (ts.any fun z => PyData.eqv z.d x.d)
  | .dic ks ts => (match x.key with
    | some k => Q (ks.any fun z => decide (z = k))
    | none => False)
  | .dit ks ts => (match x with
    | .tup xs => (match T.keys xs with
      | some k => Q (ks.any fun z => decide (z = k))
      | none => False)
    | _ => False)
  | _ => False
def notInT (x y : T) (Q : Bool → Prop) : Prop := inT x y fun b => Q (!b)
theorem Op2.neg {r r' : R2} {g : T → T → (Bool → Prop) → Prop} (h : Op2 X r (gB g)) (hr : ∀ x y H Q, r x y H (fun v H' => ∀ b, v = .bl b → Q (.bl (!b)) H') → r' x y H Q) : Op2 X r' (gB fun x y Q => g x y fun b => Q (!b)) := by
  intro B Wd H tx ty vx vy K0 Q hS hg hQ
  refine hr _ _ _ _ (h B Wd H tx ty vx vy (fun o => ∃ b, o = .sh (.bl b) ∧ K0 (.sh (.bl (!b)))) _ hS ?_ fun o v H' q s b e => ?_)
  · have e : (fun b : Bool => ∃ b', O.sh (.bl b) = .sh (.bl b') ∧ K0 (.sh (.bl (!b')))) = fun b => K0 (.sh (.bl (!b))) := funext fun b => propext ⟨fun ⟨b', e, q⟩ => by cases e; exact q, fun q => ⟨b, rfl, q⟩⟩
    show g tx ty fun b => ∃ b', O.sh (.bl b) = .sh (.bl b') ∧ K0 (.sh (.bl (!b')))
    rw [e]
    exact hg
  · obtain ⟨k, rfl, q⟩ := q
    subst e
    obtain ⟨S, _, _, rp, _⟩ := s.get1
    have e2 : V.bl b = .bl k := rp
    cases e2
    exact hQ _ _ _ q (s.flat fun _ => rfl)
theorem Rep.key {K : PySem.W.Frag} {S : Hp} {t : T} {v : V} {k : Key} (h : Rep K S t v) (e : t.key = some k) : v = kV k := by
  cases t <;> first
    | (cases e; exact h)
    | cases e
theorem Reps.keys {K : PySem.W.Frag} {S : Hp} : ∀ {ts : List T} {vs : List V} {ks : List Key}, Reps K S ts vs → T.keys ts = some ks → vs = ks.map kV
  | [], _, _, h, e => by cases e; exact h
  | t :: ts, _, ks, h, e => by
    obtain ⟨v, r, rfl, h2, h3⟩ := h
    simp only [T.keys] at e
    cases e1 : t.key with
    | none => rw [e1] at e; cases e
    | some k =>
      rw [e1] at e
      cases e2 : T.keys ts with
      | none => rw [e2] at e; cases e
      | some kk =>
        rw [e2] at e
        cases e
        rw [h2.key e1, Reps.keys h3 e2]
        rfl
theorem any_zip {κ : Type} [DecidableEq κ] (k : κ) : ∀ {ks : List κ} {vs : List V}, ks.length = vs.length → ((ks.zip vs).any fun kv => decide (kv.1 = k)) = ks.any fun z => decide (z = k)
  | [], _, _ => rfl
  | a :: ks, [], h => by simp at h
  | a :: ks, v :: vs, h => by
    rw [List.zip_cons_cons, List.any_cons, List.any_cons, any_zip k (by simpa using h)]
abbrev rInT (K : PySem.W.Frag) : R2 := fun x y H Q => rInD K x y H Q ∨ rIn K false x y H Q ∨ ∃ a o, y = .ref a ∧ DGet H a x o ∧ Q (.bl o.isSome) H
theorem op_dinR (hu : X.A.units + 1 < cLine) : OpR X (compareOp .In) (fun x y H Q => ∃ a o, y = .ref a ∧ DGet H a x o ∧ Q (.bl o.isSome) H) := by
  intro pins s σ H x y v u Q I rx ry h
  obtain ⟨a, o, rfl, g, q⟩ := h
  obtain rfl : u = Value.ref a := ry
  exact d_in hu I g rx fun s3 I3 => ⟨.bl o.isSome, H, I3, rfl, q⟩
theorem op_inT (hu : X.A.units + 65 < cLine) : OpR X (compareOp .In) (rInT X.K) := (op_inD hu).or (op_in_seq.or (op_dinR (by omega)))
theorem Rep.fl {K : PySem.W.Frag} {S : Hp} {t : T} {v : V} (h : Rep K S t v) (d : t.isD = true) (f : t.flat = true) : flatV v = true := by
  cases t <;> first
    | exact (Bool.false_ne_true f).elim
    | exact (Bool.false_ne_true d).elim
    | (rw [show v = _ from h]; rfl)
theorem Rep.eqv {K : PySem.W.Frag} {S : Hp} {t u : T} {v w : V} (h : Rep K S t v) (d : t.isD = true) (f : t.flat = true) (h' : Rep K S u w) (d' : u.isD = true) (f' : u.flat = true) : eqV v w = PyData.eqv t.d u.d := by
  cases t <;> first
    | exact (Bool.false_ne_true f).elim
    | exact (Bool.false_ne_true d).elim
    | (cases u <;> first
        | exact (Bool.false_ne_true f').elim
        | exact (Bool.false_ne_true d').elim
        | (rw [show v = _ from h, show w = _ from h']; simp [eqV, T.d, PyData.eqv]))
theorem Reps.fl {K : PySem.W.Frag} {S : Hp} : ∀ {ts : List T} {vs : List V}, Reps K S ts vs → ts.all (fun z => z.isD && z.flat) = true → vs.all flatV = true
  | [], _, h, _ => by rw [show _ = [] from h]; rfl
  | t :: ts, _, h, e => by
    obtain ⟨v, r, rfl, h2, h3⟩ := h
    rw [List.all_cons, Bool.and_eq_true, Bool.and_eq_true] at e
    rw [List.all_cons, Rep.fl h2 e.1.1 e.1.2, Reps.fl h3 e.2]
    rfl
theorem Reps.inV {K : PySem.W.Frag} {S : Hp} {u : T} {w : V} (h' : Rep K S u w) (d' : u.isD = true) (f' : u.flat = true) : ∀ {ts : List T} {vs : List V}, Reps K S ts vs → ts.all (fun z => z.isD && z.flat) = true → inV w vs = ts.any fun z => PyData.eqv z.d u.d
  | [], _, h, _ => by rw [show _ = [] from h]; rfl
  | t :: ts, _, h, e => by
    obtain ⟨v, r, rfl, h2, h3⟩ := h
    rw [List.all_cons, Bool.and_eq_true, Bool.and_eq_true] at e
    have ih := Reps.inV h' d' f' h3 e.2
    unfold L2.inV at ih ⊢
    rw [List.any_cons, List.any_cons, Rep.eqv h2 e.1.1 e.1.2 h' d' f', ih]
theorem ds_any {p : PyData → Bool} : ∀ ts : List T, ((T.ds ts).any p) = ts.any fun z => p z.d
  | [] => rfl
  | t :: ts => by rw [T.ds, List.any_cons, List.any_cons, ds_any ts]
theorem inT_ok : Op2 X (rInT X.K) (gB inT) := by
  intro B Wd H tx ty vx vy K0 Q h g hQ
  obtain ⟨S, h1, h2, rx, ry, back⟩ := h.get2
  have fin : ∀ b, K0 (.sh (.bl b)) → Q (.bl b) H := fun b q => hQ _ _ _ q (h.flat fun _ => rfl)
  cases ty <;> first
    | exact (show False from g).elim
    | skip
  · obtain ⟨⟨d1, f1, a1⟩, g⟩ := g
    obtain ⟨a, va, rfl, ha, ra⟩ := ry
    exact .inr (.inl ⟨a, va, rfl, .inr (SqT.of (h2 _ _ ha)), rx.fl d1 f1, ra.fl a1, by rw [Reps.inV rx d1 f1 ra a1]; exact fin _ g⟩)
  · obtain ⟨⟨d1, d2, e1, e2⟩, g⟩ := g
    refine .inl ⟨_, _, rx.dp h2 d1, Rep.dp (t := .lst _) h2 d2 ry, shaped_of d1 e1, shaped_of (t := .lst _) d2 ?_, ?_⟩
    · simp only [T.d, PyData.depth]
      omega
    · rw [ds_any]
      exact fin _ g
  · obtain ⟨⟨d1, f1, a1⟩, g⟩ := g
    obtain ⟨a, va, rfl, ha, ra⟩ := ry
    exact .inr (.inl ⟨a, va, rfl, .inr (SqT.mono h2 ha), rx.fl d1 f1, ra.fl a1, by rw [Reps.inV rx d1 f1 ra a1]; exact fin _ g⟩)
  · rename_i ks ts
    obtain ⟨a, va, rfl, ha, hl, ra⟩ := ry
    have g' : (match tx.key with | some k => K0 (.sh (.bl (ks.any fun z => decide (z = k)))) | none => False) := g
    cases e : tx.key with
    | none => rw [e] at g'; exact g'.elim
    | some k =>
      rw [e] at g'
      refine .inr (.inr ⟨a, valV (ks.zip va) k, rfl, ?_, ?_⟩)
      · rw [rx.key e]
        exact dget_kr (Rd.mono h2 ha)
      · rw [← valV_any, any_zip k (hl.trans ra.len)]
        exact fin _ g'
  · rename_i ks ts
    obtain ⟨a, va, rfl, ha, hl, ra⟩ := ry
    cases tx <;> first
      | exact (show False from g).elim
      | skip
    rename_i xs
    obtain ⟨b, vb, rfl, hb, rb⟩ := rx
    have g' : (match T.keys xs with | some k => K0 (.sh (.bl (ks.any fun z => decide (z = k)))) | none => False) := g
    cases e : T.keys xs with
    | none => rw [e] at g'; exact g'.elim
    | some k =>
      rw [e] at g'
      refine .inr (.inr ⟨a, valV (ks.zip va) k, rfl, ?_, ?_⟩)
      · exact DGet.t (h2 _ _ ha) (by rw [← rb.keys e]; exact h2 _ _ hb)
      · rw [← valV_any, any_zip k (hl.trans ra.len)]
        exact fin _ g'
def ixT : T → T → (O → Prop) → Prop
  | .tup ts, .int i, Q => (match atI ts i with
    | some t => Q (.sh t)
    | none => False)
  | .lst ts, .int i, Q => (match atI ts i with
    | some t => Q (.sh t)
    | none => False)
  | .ktp ts, .int i, Q => (match atI ts i with
    | some t => Q (.sh t)
    | none => False)
  | .str z, .int i, Q => z.length ≤ sizeLine ∧ (match atI z.cps.toList i with
    | some c => Q (.sh (.str ⟨#[c]⟩))
    | none => False)
  | _, _, _ => False
theorem Reps.atI {K : PySem.W.Frag} {S : Hp} {ts : List T} {vs : List V} (h : Reps K S ts vs) {i : Int} {t : T} (e : L2.atI ts i = some t) : ∃ v, L2.atI vs i = some v ∧ Rep K S t v := by
  unfold L2.atI at e ⊢
  rw [← h.len]
  cases q : ixN ts.length i with
  | none => rw [q] at e; cases e
  | some j =>
    rw [q] at e
    exact h.get e
theorem ixT_ok : Op2 X (rIx X.K) ixT := by
  intro B Wd H tx ty vx vy K0 Q h g hQ
  obtain ⟨S, h1, h2, rx, ry, back⟩ := h.get2
  cases tx <;> cases ty <;> first
    | exact (show False from g).elim
    | skip
  · rename_i z i
    obtain ⟨gl, g⟩ := g
    cases e : atI z.cps.toList i with
    | none => rw [e] at g; exact g.elim
    | some c =>
      rw [e] at g
      exact .inr (.inr ⟨z, i, c, rx, ry, gl, e, hQ _ _ _ g (h.flat fun _ => rfl)⟩)
  · rename_i ts i
    obtain ⟨a, va, rfl, ha, ra⟩ := rx
    have g' : (match atI ts i with | some t => K0 (.sh t) | none => False) := g
    cases e : atI ts i with
    | none => rw [e] at g'; exact g'.elim
    | some t =>
      rw [e] at g'
      obtain ⟨v, e1, e2⟩ := ra.atI e
      exact .inr (.inl ⟨a, va, i, v, rfl, ry, SqT.of (h2 _ _ ha), e1, hQ _ _ _ g' (back [_] [_] (reps1 e2))⟩)
  · rename_i ts i
    obtain ⟨a, va, rfl, ha, ra⟩ := rx
    have g' : (match atI ts i with | some t => K0 (.sh t) | none => False) := g
    cases e : atI ts i with
    | none => rw [e] at g'; exact g'.elim
    | some t =>
      rw [e] at g'
      obtain ⟨v, e1, e2⟩ := ra.atI e
      exact .inl ⟨a, va, i, v, rfl, ry, SqL.of (h2 _ _ ha), e1, hQ _ _ _ g' (back [_] [_] (reps1 e2))⟩
  · rename_i ts i
    obtain ⟨a, va, rfl, ha, ra⟩ := rx
    have g' : (match atI ts i with | some t => K0 (.sh t) | none => False) := g
    cases e : atI ts i with
    | none => rw [e] at g'; exact g'.elim
    | some t =>
      rw [e] at g'
      obtain ⟨v, e1, e2⟩ := ra.atI e
      exact .inr (.inl ⟨a, va, i, v, rfl, ry, SqT.mono h2 ha, e1, hQ _ _ _ g' (back [_] [_] (reps1 e2))⟩)
end
end TL
namespace TL
open PySem PySem.Spec PyProof.Rows L2
def xNil : XA := fun ρ K _ => K [] ρ
def xCons (x : XE) (y : XA) : XA := fun ρ K Z => x ρ (fun o ρ1 => y ρ1 (fun os ρ2 => K (o :: os) ρ2) Z) Z
def xLst (y : XA) : XE := fun ρ K Z => y ρ (fun os ρ' => os.length ≤ sizeLine ∧ K (.lst os) ρ') Z
def xTup (y : XA) : XE := fun ρ K Z => y ρ (fun os ρ' => os.length ≤ sizeLine ∧ K (.sh (.tup (O.ts os))) ρ') Z
section
variable {K : PySem.W.Frag} {B Wd H S : Hp} {os : R} {vs : L2.St} {o : O} {v : V} {i : Nat} {t : T}
theorem Sim.rot {l1 l2 : R} {v1 v2 : L2.St} {x : Option O} {w : Option V} (hl : l1.length = v1.length) (h : Sim K B Wd (l1 ++ x :: l2) (v1 ++ w :: v2) H) : Sim K B Wd (x :: (l1 ++ l2)) (w :: (v1 ++ v2)) H := by
  refine h.via (fun j => if j = 0 then l1.length else if j ≤ l1.length then j - 1 else j) (fun a b _ _ => ?_) (by have := h.len; simp at this ⊢; omega) fun j o e => ?_
  · repeat' split
    all_goals omega
  · cases j with
    | zero =>
      simp at e
      subst e
      refine ⟨by simp, fun v q => ?_⟩
      simp only [if_true] at q
      rw [hl] at q
      rw [List.getElem?_append_right (Nat.le_refl _)] at q
      simpa using q
    | succ j =>
      by_cases hj : j < l1.length
      · simp only [Nat.add_one_ne_zero, if_false, if_pos (show j + 1 ≤ l1.length from hj), Nat.add_sub_cancel]
        rw [List.getElem?_cons_succ, List.getElem?_append_left hj] at e
        refine ⟨by rw [List.getElem?_append_left hj]; exact e, fun v q => ?_⟩
        rw [List.getElem?_append_left (by omega)] at q
        rw [List.getElem?_cons_succ, List.getElem?_append_left (by omega)]
        exact q
      · simp only [Nat.add_one_ne_zero, if_false, if_neg (show ¬ j + 1 ≤ l1.length by omega)]
        rw [List.getElem?_cons_succ, List.getElem?_append_right (by omega)] at e
        obtain ⟨k, hk⟩ : ∃ k, j - l1.length = k := ⟨_, rfl⟩
        rw [hk] at e
        refine ⟨?_, fun v q => ?_⟩
        · rw [List.getElem?_append_right (by omega), show j + 1 - l1.length = k + 1 by omega]
          simpa using e
        · rw [List.getElem?_append_right (by omega), show j + 1 - v1.length = k + 1 by omega] at q
          rw [List.getElem?_cons_succ, List.getElem?_append_right (by omega), show j - v1.length = k by omega]
          simpa using q
end
section
variable {X : Cx} {W : L2.WX} {a b c e : Expr} {es rest : List Expr} {xa xb xc x : XE} {y : XA} {pos p : Pos}
theorem pa_nil : PAt X W [] xNil := PA.imp L2.pa_nil fun σ H Q ⟨B, Wd, fr, frv, ρ, K0, Z0, hl, s, hx, hK, hZ⟩ => hK [] ρ [] H rfl hx (by simpa using s)
theorem pa_cons (ha : PEt X W e x) (hr : PAt X W es y) (hs : starEach (e :: es) X.env = (false, eval e X.env) :: starEach es X.env := by rfl) : PAt X W (e :: es) (xCons x y) :=
  PA.imp (L2.pa_cons ha hr hs) fun σ H Q ⟨B, Wd, fr, frv, ρ, K0, Z0, hl, s, hx, hK, hZ⟩ =>
    ⟨B, Wd, fr, frv, ρ, _, Z0, hl, s, hx, fun o ρ1 v H1 k1 s1 => ⟨B, Wd, some o :: fr, some v :: frv, ρ1, _, Z0, by simp [hl], s1, k1, fun os ρ2 vs H2 hle k2 s2 =>
      hK (o :: os) ρ2 (v :: vs) H2 (by simp [hle]) k2 (by simpa using Sim.rot (l1 := os.map some) (v1 := vs.map some) (by simp [hle]) (by simpa using s2)), hZ.push⟩, hZ⟩
theorem pe_lst (h : PAt X W es y) : PEt X W (.List es pos) (xLst y) := PE.imp (L2.pe_lst h) fun σ H Q ⟨B, Wd, fr, frv, ρ, K0, Z0, hl, s, hx, hK, hZ⟩ =>
  ⟨B, Wd, fr, frv, ρ, _, Z0, hl, s, hx, fun os ρ1 vs H1 hle k1 s1 => ⟨by rw [← hle]; exact k1.1, fun p hp => by
    obtain ⟨B', Wd', _, h2, back⟩ := Sim.front (as := os) (va := vs) hle s1
    exact hK _ _ _ _ k1.2 (by simpa using back _ _ _ (h2.newL hp))⟩, hZ⟩
theorem pe_tup {k} (h : PAt X W es y) : PEt X W (.Tuple es k pos) (xTup y) := PE.imp (L2.pe_tup h) fun σ H Q ⟨B, Wd, fr, frv, ρ, K0, Z0, hl, s, hx, hK, hZ⟩ =>
  ⟨B, Wd, fr, frv, ρ, _, Z0, hl, s, hx, fun os ρ1 vs H1 hle k1 s1 => ⟨by rw [← hle]; exact k1.1, fun p hp => by
    obtain ⟨B', Wd', _, h2, back⟩ := Sim.front (as := os) (va := vs) hle s1
    exact hK _ _ _ _ k1.2 (by simpa using back _ _ _ (h2.newT hp))⟩, hZ⟩
def xB (g : List T → (O → Prop) → Prop) (y : XA) : XE := fun ρ K Z => y ρ (fun os ρ' => g (O.ts os) fun o => K o ρ') Z
def CallT (X : Cx) (r : List V → Hp → VK → Prop) (g : List T → (O → Prop) → Prop) : Prop := ∀ B Wd H ts vs K0 Q, Smo X.K B Wd (ts.map .sh) vs H → g ts K0 → (∀ o v H', K0 o → Smo X.K B Wd [o] [v] H' → Q v H') → r vs H Q
theorem callT_core {r : List V → Hp → VK → Prop} {g : List T → (O → Prop) → Prop} (ht : CallT X r g) {σ : L2.St} {H : Hp} {Q : VK} (h : lE X.K W (xB g y) σ H Q) : tCB r (lA X.K W y) σ H Q := by
  obtain ⟨B, Wd, fr, frv, ρ, K0, Z0, hl, s, hx, hK, hZ⟩ := h
  refine ⟨B, Wd, fr, frv, ρ, _, Z0, hl, s, hx, fun os ρ1 vs H1 hle k1 s1 => ?_, hZ⟩
  obtain ⟨B', Wd', _, h2, back⟩ := Sim.front (as := os) (va := vs) hle s1
  exact ht B' Wd' H1 (O.ts os) vs _ Q h2.frz k1 fun o v H' ko so => hK o ρ1 v H' ko (by simpa using back _ _ _ so)
theorem pe_callB {id : String} {n : Str} {r : List V → Hp → VK → Prop} {g : List T → (O → Prop) → Prop} (hc : CallR X (.builtin id) r) (ht : CallT X r g) (hg : Gl X n) (hm : X.mg n = none) (hv : bootBuiltins n = some (.builtin id)) (ha : PAt X W (e :: es) y) (hn : n ≠ "__name__" := by decide) (hdb : (n == ("__debug__" : Str)) = false := by decide)
    (he : starEach (e :: es) X.env = (false, eval e X.env) :: starEach es X.env := by rfl) (hpl : (backTo pos (starEach es X.env)).any (·.1) = false := by rfl) : PEt X W (.Call (.Name n p) (e :: es) [] pos) (xB g y) :=
  PE.imp (L2.pe_callB hc hg hm hv ha hn hdb he hpl) fun σ H Q h => callT_core ht h
theorem pe_callTy {Ty : String} {n : Str} {r : List V → Hp → VK → Prop} {g : List T → (O → Prop) → Prop} (hc : CallR X (.type Ty) r) (ht : CallT X r g) (hg : Gl X n) (hm : X.mg n = none) (hv : bootBuiltins n = some (.type Ty)) (ha : PAt X W (e :: es) y) (hn : n ≠ "__name__" := by decide) (hdb : (n == ("__debug__" : Str)) = false := by decide)
    (he : starEach (e :: es) X.env = (false, eval e X.env) :: starEach es X.env := by rfl) (hpl : (backTo pos (starEach es X.env)).any (·.1) = false := by rfl) : PEt X W (.Call (.Name n p) (e :: es) [] pos) (xB g y) :=
  PE.imp (L2.pe_callTy hc hg hm hv ha hn hdb he hpl) fun σ H Q h => callT_core ht h
theorem CallR.imp {f : Value} {r r' : List V → Hp → VK → Prop} (h : CallR X f r) (i : ∀ vs H Q, r' vs H Q → r vs H Q) : CallR X f r' := fun pins s σ H vs us Q I rv q => h pins s σ H vs us Q I rv (i _ _ _ q)
def un1 (f : T → (O → Prop) → Prop) : List T → (O → Prop) → Prop
  | [t], Q => f t Q
  | _, _ => False
def un2 (f : T → T → (O → Prop) → Prop) : List T → (O → Prop) → Prop
  | [t, u], Q => f t u Q
  | _, _ => False
theorem CallT.one {r : List V → Hp → VK → Prop} {f : T → (O → Prop) → Prop}
    (h : ∀ B Wd S H t v K0 Q, Smo X.K B Wd [.sh t] [v] H → Same S H → Rep X.K S t v → (∀ ts' vs', Reps X.K S ts' vs' → Smo X.K B Wd (ts'.map .sh) vs' H) → f t K0 → (∀ o v H', K0 o → Smo X.K B Wd [o] [v] H' → Q v H') → r [v] H Q) : CallT X r (un1 f) := by
  intro B Wd H ts vs K0 Q hs g hQ
  match ts, g with
  | [t], g =>
    obtain ⟨S, h1, h2, ⟨v, r0, e, h3, h4⟩, back⟩ := Smo.get (ts := [t]) hs
    have e0 : r0 = [] := h4
    subst e0
    subst e
    exact h B Wd S H t v K0 Q hs h2 h3 back g hQ
  | [], g => exact (show False from g).elim
  | _ :: _ :: _, g => exact (show False from g).elim
theorem CallT.two {r : List V → Hp → VK → Prop} {f : T → T → (O → Prop) → Prop}
    (h : ∀ B Wd S H t v u w K0 Q, Smo X.K B Wd [.sh t, .sh u] [v, w] H → Same S H → Rep X.K S t v → Rep X.K S u w → (∀ ts' vs', Reps X.K S ts' vs' → Smo X.K B Wd (ts'.map .sh) vs' H) → f t u K0 → (∀ o v H', K0 o → Smo X.K B Wd [o] [v] H' → Q v H') → r [v, w] H Q) : CallT X r (un2 f) := by
  intro B Wd H ts vs K0 Q hs g hQ
  match ts, g with
  | [t, u], g =>
    obtain ⟨S, h1, h2, ⟨v, r0, e, h3, w, r1, e1, h4, h5⟩, back⟩ := Smo.get (ts := [t, u]) hs
    have e0 : r1 = [] := h5
    subst e0
    subst e1
    subst e
    exact h B Wd S H t v u w K0 Q hs h2 h3 h4 back g hQ
  | [], g => exact (show False from g).elim
  | [_], g => exact (show False from g).elim
  | _ :: _ :: _ :: _, g => exact (show False from g).elim
/-- len -/
def lenT : T → (O → Prop) → Prop
  | .tup ts, Q => Q (.sh (.int ts.length))
  | .lst ts, Q => Q (.sh (.int ts.length))
  | .ktp ts, Q => Q (.sh (.int ts.length))
  | .kls ts, Q => Q (.sh (.int ts.length))
  | .dic _ ts, Q => Q (.sh (.int ts.length))
  | .str z, Q => z.length ≤ sizeLine ∧ Q (.sh (.int z.length))
  | _, _ => False
theorem call_lenDR : CallR X (.builtin "len") (fun xs H Q => ∃ a kvs, xs = [V.ref a] ∧ Rd H a (.dK kvs) ∧ Q (.int kvs.length) H) := by
  intro pins s σ H xs us Q I r h
  obtain ⟨a, kvs, rfl, ha, q⟩ := h
  obtain ⟨u, rfl, ru⟩ := vals1 r
  cases ru
  exact d_len I ha fun t s' I' => ⟨.int kvs.length, H, I', ⟨t, rfl⟩, q⟩
abbrev rLenT (K : PySem.W.Frag) : List V → Hp → VK → Prop := fun xs H Q => (∃ x n, xs = [x] ∧ LenV K x H n ∧ Q (.int n) H) ∨ (∃ a kvs, xs = [V.ref a] ∧ Rd H a (.dK kvs) ∧ Q (.int kvs.length) H)
theorem call_lenT : CallR X (.builtin "len") (rLenT X.K) := call_len.or call_lenDR
theorem lenT_ok : CallT X (rLenT X.K) (un1 lenT) := CallT.one fun B Wd S H t v K0 Q hs h2 rx back g hQ => by
  have fin : ∀ n : Nat, K0 (.sh (.int n)) → Q (.int n) H := fun n q => hQ _ _ _ q (hs.flat fun _ => rfl)
  cases t <;> first
    | exact (show False from g).elim
    | skip
  · exact .inl ⟨v, _, rfl, by rw [show v = _ from rx]; exact ⟨g.1, rfl⟩, fin _ g.2⟩
  · obtain ⟨a, va, rfl, ha, ra⟩ := rx
    exact .inl ⟨_, va.length, rfl, .inr ⟨va, SqT.of (h2 _ _ ha), rfl⟩, by rw [← ra.len]; exact fin _ g⟩
  · obtain ⟨a, va, rfl, ha, ra⟩ := rx
    exact .inl ⟨_, va.length, rfl, .inl ⟨va, SqL.of (h2 _ _ ha), rfl⟩, by rw [← ra.len]; exact fin _ g⟩
  · obtain ⟨a, va, rfl, ha, ra⟩ := rx
    exact .inl ⟨_, va.length, rfl, .inr ⟨va, SqT.mono h2 ha, rfl⟩, by rw [← ra.len]; exact fin _ g⟩
  · obtain ⟨a, va, rfl, ha, ra⟩ := rx
    exact .inl ⟨_, va.length, rfl, .inl ⟨va, Same.seq h2 ha, rfl⟩, by rw [← ra.len]; exact fin _ g⟩
  · obtain ⟨a, va, rfl, ha, hl, ra⟩ := rx
    refine .inr ⟨a, _, rfl, Rd.mono h2 ha, ?_⟩
    have e : (List.zip ‹List Key› va).length = (‹List T›).length := by rw [List.length_zip, hl, ra.len, Nat.min_self]
    rw [e]
    exact fin _ g
/-- abs, int, bool, max, min -/
def absT : T → (O → Prop) → Prop
  | .int i, Q => Q (.sh (.int (if i < 0 then -i else i)))
  | _, _ => False
theorem absT_ok : CallT X (fun xs H Q => ∃ i, xs = [.int i] ∧ Q (.int (if i < 0 then -i else i)) H) (un1 absT) := CallT.one fun B Wd S H t v K0 Q hs h2 rx back g hQ => by
  cases t <;> first
    | exact (show False from g).elim
    | exact ⟨_, by rw [show v = _ from rx], hQ _ _ _ g (hs.flat fun _ => rfl)⟩
def toIntT : T → (O → Prop) → Prop
  | .int i, Q => Q (.sh (.int i))
  | .bl b, Q => Q (.sh (.int (if b then 1 else 0)))
  | _, _ => False
theorem toIntT_ok : CallT X (fun xs H Q => (∃ i, xs = [.int i] ∧ Q (.int i) H) ∨ ∃ k, xs = [.bl k] ∧ Q (.int (if k then 1 else 0)) H) (un1 toIntT) := CallT.one fun B Wd S H t v K0 Q hs h2 rx back g hQ => by
  cases t <;> first
    | exact (show False from g).elim
    | skip
  · exact .inr ⟨_, congrArg (fun z => [z]) (show v = _ from rx), hQ _ _ _ g (hs.flat fun _ => rfl)⟩
  · exact .inl ⟨_, congrArg (fun z => [z]) (show v = _ from rx), hQ _ _ _ g (hs.flat fun _ => rfl)⟩
def maxT : T → T → (O → Prop) → Prop
  | .int i, .int j, Q => Q (.sh (.int (if j > i then j else i)))
  | _, _, _ => False
def minT : T → T → (O → Prop) → Prop
  | .int i, .int j, Q => Q (.sh (.int (if j < i then j else i)))
  | _, _, _ => False
theorem maxT_ok : CallT X (fun xs H Q => ∃ i j, xs = [.int i, .int j] ∧ Q (.int (if j > i then j else i)) H) (un2 maxT) := CallT.two fun B Wd S H t v u w K0 Q hs h2 rx ry back g hQ => by
  cases t <;> cases u <;> first
    | exact (show False from g).elim
    | exact ⟨_, _, by rw [show v = _ from rx, show w = _ from ry], hQ _ _ _ g (hs.flat fun _ => rfl)⟩
/-- list(x), tuple(x) -/
def listT : T → (O → Prop) → Prop
  | .tup ts, Q => Q (.lst (ts.map .sh))
  | .lst ts, Q => Q (.lst (ts.map .sh))
  | .ktp ts, Q => Q (.lst (ts.map .sh))
  | .kls ts, Q => Q (.lst (ts.map .sh))
  | _, _ => False
theorem listT_ok : CallT X (fun xs H Q => ∃ p ys, xs = [.ref p] ∧ (SqL X.K H p ys ∨ SqT X.K H p ys) ∧ ∀ l, H l = none → Q (.ref l) (upd H l (.lst ys))) (un1 listT) := CallT.one fun B Wd S H t v K0 Q hs h2 rx back g hQ => by
  cases t <;> first
    | exact (show False from g).elim
    | skip
  · obtain ⟨a, va, rfl, ha, ra⟩ := rx
    exact ⟨a, va, rfl, .inr (SqT.of (h2 _ _ ha)), fun l hl => hQ _ _ _ g ((back _ _ ra).newL hl)⟩
  · obtain ⟨a, va, rfl, ha, ra⟩ := rx
    exact ⟨a, va, rfl, .inl (SqL.of (h2 _ _ ha)), fun l hl => hQ _ _ _ g ((back _ _ ra).newL hl)⟩
  · obtain ⟨a, va, rfl, ha, ra⟩ := rx
    exact ⟨a, va, rfl, .inr (SqT.mono h2 ha), fun l hl => hQ _ _ _ g ((back _ _ ra).newL hl)⟩
  · obtain ⟨a, va, rfl, ha, ra⟩ := rx
    exact ⟨a, va, rfl, .inl (Same.seq h2 ha), fun l hl => hQ _ _ _ g ((back _ _ ra).newL hl)⟩
def tupleT : T → (O → Prop) → Prop
  | .tup ts, Q => Q (.sh (.tup ts))
  | .lst ts, Q => Q (.sh (.tup ts))
  | .kls ts, Q => Q (.sh (.tup ts))
  | _, _ => False
/-- any, all of a list of True, False -/
def T.bls : List T → Option (List Bool)
  | [] => some []
  | .bl b :: ts => (T.bls ts).map fun bs => b :: bs
  | _ => none
theorem Reps.bls {K : PySem.W.Frag} {S : Hp} : ∀ {ts : List T} {vs : List V} {bs : List Bool}, Reps K S ts vs → T.bls ts = some bs → vs = bs.map V.bl
  | [], _, _, h, e => by cases e; exact h
  | t :: ts, _, bs, h, e => by
    obtain ⟨v, r, rfl, h2, h3⟩ := h
    cases t <;> first
      | cases e
      | skip
    have e' : (T.bls ts).map (fun bs => _ :: bs) = some bs := e
    cases q : T.bls ts with
    | none => rw [q] at e'; cases e'
    | some b2 =>
      rw [q] at e'
      cases e'
      rw [show v = _ from h2, Reps.bls h3 q]
      rfl
def boolsT (f : List Bool → Bool) : T → (O → Prop) → Prop
  | .lst ts, Q => (match T.bls ts with
    | some bs => Q (.sh (.bl (f bs)))
    | none => False)
  | _, _ => False
theorem anyT_ok : CallT X (rAny X.K) (un1 (boolsT fun bs => bs.any id)) := CallT.one fun B Wd S H t v K0 Q hs h2 rx back g hQ => by
  cases t <;> first
    | exact (show False from g).elim
    | skip
  rename_i ts
  obtain ⟨a, va, rfl, ha, ra⟩ := rx
  have g' : (match T.bls ts with | some bs => K0 (.sh (.bl (bs.any id))) | none => False) := g
  cases e : T.bls ts with
  | none => rw [e] at g'; exact g'.elim
  | some bs => rw [e] at g'; exact ⟨a, bs, rfl, by rw [← ra.bls e]; exact SqL.of (h2 _ _ ha), hQ _ _ _ g' (hs.flat fun _ => rfl)⟩
theorem allT_ok : CallT X (rAll X.K) (un1 (boolsT fun bs => bs.all id)) := CallT.one fun B Wd S H t v K0 Q hs h2 rx back g hQ => by
  cases t <;> first
    | exact (show False from g).elim
    | skip
  rename_i ts
  obtain ⟨a, va, rfl, ha, ra⟩ := rx
  have g' : (match T.bls ts with | some bs => K0 (.sh (.bl (bs.all id))) | none => False) := g
  cases e : T.bls ts with
  | none => rw [e] at g'; exact g'.elim
  | some bs => rw [e] at g'; exact ⟨a, bs, rfl, by rw [← ra.bls e]; exact SqL.of (h2 _ _ ha), hQ _ _ _ g' (hs.flat fun _ => rfl)⟩
/-- isinstance with built-in classes -/
def T.tn : T → Option String
  | .non => some "NoneType"
  | .bl _ => some "bool"
  | .int _ => some "int"
  | .str _ => some "str"
  | .tup _ => some "tuple"
  | .lst _ => some "list"
  | .dic _ _ => some "dict"
  | .dit _ _ => some "dict"
  | _ => none
inductive Ty7 where | list | tuple | str | int | bool | dict
def Ty7.n : Ty7 → String
  | .list => "list" | .tuple => "tuple" | .str => "str" | .int => "int" | .bool => "bool" | .dict => "dict"
def T.isTy : T → Ty7 → Bool
  | .bl _, .bool => true
  | .bl _, .int => true
  | .int _, .int => true
  | .str _, .str => true
  | .tup _, .tuple => true
  | .lst _, .list => true
  | .dic _ _, .dict => true
  | .dit _ _, .dict => true
  | _, _ => false
def kitN (m : String) (c : Ty7) : Bool := m == c.n || (m == "bool" && c.n == "int")
theorem kit7 : ∀ m ∈ ["NoneType", "bool", "int", "str", "tuple", "list", "dict"], ∀ c ∈ [Ty7.list, .tuple, .str, .int, .bool, .dict], kitB m c.n = some (kitN m c) := by decide +kernel
theorem all7 (c : Ty7) : c ∈ [Ty7.list, .tuple, .str, .int, .bool, .dict] := by cases c <;> simp
theorem kit_all : ∀ (t : T) (m : String), t.tn = some m → ∀ c : Ty7, kitB m c.n = some (t.isTy c) := by
  intro t m h c
  have e : m ∈ ["NoneType", "bool", "int", "str", "tuple", "list", "dict"] ∧ kitN m c = t.isTy c := by
    cases t <;> first
      | (simp [T.tn] at h; done)
      | (cases h; exact ⟨by simp, by cases c <;> rfl⟩)
  rw [kit7 m e.1 c (all7 c), e.2]
theorem Rep.tyx {K : PySem.W.Frag} {S H : Hp} {t : T} {v : V} {m : String} (e : Same S H) (h : Rep K S t v) (hm : t.tn = some m) : TyX K H v (.type m) := by
  cases t <;> first
    | (simp [T.tn] at hm; done)
    | cases hm
  · rw [show v = _ from h]; exact .base .non
  · rw [show v = _ from h]; exact .base (.bl _)
  · rw [show v = _ from h]; exact .base (.int _)
  · rw [show v = _ from h]; exact .base (.str _)
  · obtain ⟨a, vs, rfl, ha, _⟩ := h; exact .base (.tup (e _ _ ha))
  · obtain ⟨a, vs, rfl, ha, _⟩ := h; exact .base (.lst (e _ _ ha))
  · obtain ⟨a, vs, rfl, ha, _⟩ := h
    rcases ha with ha | ⟨o, ha⟩
    · exact .base (.dK (e _ _ ha))
    · exact .fDict (e _ _ ha)
  · obtain ⟨a, vs, rfl, ha, _⟩ := h; exact .base (.dT (e _ _ ha))
/-- isinstance(x, c), isinstance(x, (c1, c2)): the classes as written, the value of any tree -/
def xIsi (cs : List Ty7) (x : XE) : XE := fun ρ K Z => x ρ (fun o ρ' => o.t.tn.isSome = true ∧ K (.sh (.bl (cs.any fun c => o.t.isTy c))) ρ') Z
def tysE : List Ty7 → List V := List.map fun c => .ty c.n
theorem kitAny7 {K : PySem.W.Frag} {t : T} {m : String} (hm : t.tn = some m) : ∀ cs : List Ty7, PySem.W.kitAny K (.type m) (cs.map fun c => Value.type c.n) = some (cs.any fun c => t.isTy c)
  | [] => kitAny_nil
  | c :: cs => by
    refine kitAny_cons (kit_ty (kit_all t m hm c)) (fun e => ?_) fun e => ?_
    · rw [List.any_cons, e, Bool.false_or]
      exact kitAny7 hm cs
    · rw [List.any_cons, e, Bool.true_or]
theorem clsV7 : ∀ cs : List Ty7, Paired ClsV (tysE cs) (cs.map fun c => Value.type c.n)
  | [] => .nil
  | c :: cs => .cons (.ty _) (clsV7 cs)
theorem Sim.ext {K : PySem.W.Frag} {B Wd H : Hp} {os : R} {vs : L2.St} {p : Addr} {ho : HO} (h : Sim K B Wd os vs H) (hp : H p = none) : Sim K B Wd os vs (upd H p ho) := by
  obtain ⟨B', Wd', _, h3, back⟩ := Sim.front (as := []) (va := []) rfl (by simpa using h)
  have h4 : Smo K B' Wd' [.sh (.adr (.ref p))] [.ref p] (upd H p ho) := Smo.newS (ts := []) h3 hp fun S _ _ => rfl
  exact (back [_] [_] _ h4).drop
theorem pe_isi {c : Ty7} {n2 : Str} {p0 p1 : Pos} (hg : Gl X "isinstance") (hm : X.mg "isinstance" = none) (hg2 : Gl X n2) (hm2 : X.mg n2 = none) (hv2 : bootBuiltins n2 = some (.type c.n)) (ha : PEt X W e x)
    (hn2 : n2 ≠ "__name__" := by decide) (hd2 : (n2 == ("__debug__" : Str)) = false := by decide)
    (he : starEach [e, .Name n2 p1] X.env = (false, eval e X.env) :: starEach [.Name n2 p1] X.env := by rfl) (he2 : starEach [.Name n2 p1] X.env = (false, eval (.Name n2 p1) X.env) :: starEach [] X.env := by rfl) (hpl : (backTo pos (starEach [.Name n2 p1] X.env)).any (·.1) = false := by rfl) :
    PEt X W (.Call (.Name "isinstance" p0) [e, .Name n2 p1] [] pos) (xIsi [c] x) :=
  PE.imp (L2.pe_callB call_isi hg hm (by decide +kernel) (L2.pa_cons ha (L2.pa_cons (pe_bltn (v := .ty c.n) hg2 hm2 hv2 rfl hn2 hd2) L2.pa_nil he2) he) (by decide) (by decide) he hpl) fun σ H Q ⟨B, Wd, fr, frv, ρ, K0, Z0, hl, s, hx, hK, hZ⟩ =>
    ⟨B, Wd, fr, frv, ρ, _, Z0, hl, s, hx, fun o ρ1 v H1 k1 s1 => by
      obtain ⟨S, h1, h2, rp⟩ := s1.rep
      obtain ⟨ks, k2⟩ := k1
      cases q : o.t.tn with
      | none => rw [q] at ks; cases ks
      | some m =>
        refine ⟨v, .ty c.n, _, _, o.t.isTy c, rfl, .ty _, rp.tyx h2 q, kit_ty (kit_all _ m q c), hK _ _ _ _ k2 ?_⟩
        have e : [c].any (fun c => o.t.isTy c) = o.t.isTy c := by simp
        rw [e]
        exact s1.drop.push fun _ => rfl, hZ⟩
theorem pe_isi2 {c d : Ty7} {n2 n3 : Str} {k : Nat} {p0 p1 p2 p3 : Pos} (hg : Gl X "isinstance") (hm : X.mg "isinstance" = none) (hg2 : Gl X n2) (hm2 : X.mg n2 = none) (hv2 : bootBuiltins n2 = some (.type c.n)) (hg3 : Gl X n3) (hm3 : X.mg n3 = none) (hv3 : bootBuiltins n3 = some (.type d.n)) (ha : PEt X W e x)
    (hn2 : n2 ≠ "__name__" := by decide) (hd2 : (n2 == ("__debug__" : Str)) = false := by decide) (hn3 : n3 ≠ "__name__" := by decide) (hd3 : (n3 == ("__debug__" : Str)) = false := by decide)
    (he : starEach [e, .Tuple [.Name n2 p1, .Name n3 p2] k p3] X.env = (false, eval e X.env) :: starEach [.Tuple [.Name n2 p1, .Name n3 p2] k p3] X.env := by rfl) (he2 : starEach [.Tuple [.Name n2 p1, .Name n3 p2] k p3] X.env = (false, eval (.Tuple [.Name n2 p1, .Name n3 p2] k p3) X.env) :: starEach [] X.env := by rfl)
    (hpl : (backTo pos (starEach [.Tuple [.Name n2 p1, .Name n3 p2] k p3] X.env)).any (·.1) = false := by rfl)
    (he3 : starEach [.Name n2 p1, .Name n3 p2] X.env = (false, eval (.Name n2 p1) X.env) :: starEach [.Name n3 p2] X.env := by rfl) (he4 : starEach [.Name n3 p2] X.env = (false, eval (.Name n3 p2) X.env) :: starEach [] X.env := by rfl) :
    PEt X W (.Call (.Name "isinstance" p0) [e, .Tuple [.Name n2 p1, .Name n3 p2] k p3] [] pos) (xIsi [c, d] x) :=
  PE.imp (L2.pe_callB call_isiT hg hm (by decide +kernel) (L2.pa_cons ha (L2.pa_cons (L2.pe_tup (L2.pa_cons (pe_bltn (v := .ty c.n) hg2 hm2 hv2 rfl hn2 hd2) (L2.pa_cons (pe_bltn (v := .ty d.n) hg3 hm3 hv3 rfl hn3 hd3) L2.pa_nil he4) he3)) L2.pa_nil he2) he) (by decide) (by decide) he hpl)
    fun σ H Q ⟨B, Wd, fr, frv, ρ, K0, Z0, hl, s, hx, hK, hZ⟩ =>
    ⟨B, Wd, fr, frv, ρ, _, Z0, hl, s, hx, fun o ρ1 v H1 k1 s1 => by
      obtain ⟨S, h1, h2, rp⟩ := s1.rep
      obtain ⟨ks, k2⟩ := k1
      cases q : o.t.tn with
      | none => rw [q] at ks; cases ks
      | some m =>
        refine ⟨by show 2 ≤ sizeLine; decide, fun p hp => ?_⟩
        have e : Same H1 (upd H1 p (.tup [.ty c.n, .ty d.n])) := fun a u q => by rw [upd_ne (ne_of_none q hp)]; exact q
        refine ⟨v, p, _, _, _, _, rfl, upd_same, clsV7 [c, d], rp.tyx (h2.trans e) q, kitAny7 q [c, d], hK _ _ _ _ k2 ?_⟩
        exact (s1.drop.ext hp).push fun _ => rfl, hZ⟩
def truT : T → (Bool → Prop) → Prop
  | .non, Q => Q false
  | .bl b, Q => Q b
  | .int i, Q => Q (i != 0)
  | .str y, Q => y.length ≤ sizeLine ∧ Q ((y.length : Int) != 0)
  | .tup xs, Q => Q (!xs.isEmpty)
  | .lst xs, Q => Q (!xs.isEmpty)
  | .ktp xs, Q => Q (!xs.isEmpty)
  | .kls xs, Q => Q (!xs.isEmpty)
  | _, _ => False
theorem emp_of {α β : Type} {xs : List α} {ys : List β} (h : xs.length = ys.length) : xs.isEmpty = ys.isEmpty := by
  cases xs <;> cases ys <;> simp at h <;> rfl
theorem Rep.tru {K : PySem.W.Frag} {S H : Hp} (e : Same S H) {t : T} {v : V} (h : Rep K S t v) {Q : Bool → Prop} (g : truT t Q) : ∃ k, TruV K v H k ∧ Q k := by
  cases t <;> first
    | exact (show False from g).elim
    | skip
  · rw [show v = _ from h]; exact ⟨_, rfl, g⟩
  · rw [show v = _ from h]; exact ⟨_, rfl, g⟩
  · rw [show v = _ from h]; exact ⟨_, rfl, g⟩
  · rw [show v = _ from h]; exact ⟨_, ⟨g.1, rfl⟩, g.2⟩
  · obtain ⟨a, va, rfl, ha, ra⟩ := h
    exact ⟨_, .inr (.inl ⟨va, SqT.of (e _ _ ha), by rw [emp_of ra.len]⟩), g⟩
  · obtain ⟨a, va, rfl, ha, ra⟩ := h
    exact ⟨_, .inl ⟨va, SqL.of (e _ _ ha), by rw [emp_of ra.len]⟩, g⟩
  · obtain ⟨a, va, rfl, ha, ra⟩ := h
    exact ⟨_, .inr (.inl ⟨va, SqT.mono e ha, by rw [emp_of ra.len]⟩), g⟩
  · obtain ⟨a, va, rfl, ha, ra⟩ := h
    exact ⟨_, .inl ⟨va, Same.seq e ha, by rw [emp_of ra.len]⟩, g⟩
def xTru (x : XE) : XT := fun ρ K Z => x ρ (fun o ρ' => truT o.t fun b => K b ρ') Z
theorem pt_tru (ha : PEt X W e x) (he : ∀ whole, isTrue e X.env whole = (do let v ← whole; standAt e.pos; holding [v] (truthy v)) := by intro _; rfl) : PTt X W e (xTru x) :=
  PT.imp (pt_truth ha he) fun σ H Q ⟨B, Wd, fr, frv, ρ, K0, Z0, hl, s, hx, hK, hZ⟩ =>
    ⟨B, Wd, fr, frv, ρ, _, Z0, hl, s, hx, fun o ρ1 v H1 k1 s1 => by
      obtain ⟨S, h1, h2, rp⟩ := s1.rep
      obtain ⟨k, t, q⟩ := rp.tru h2 k1
      exact ⟨k, t, hK _ _ _ q s1.drop⟩, hZ⟩
def xAnd (a b : XT) : XT := fun ρ K Z => a ρ (fun c ρ1 => if c = true then b ρ1 K Z else K false ρ1) Z
def xOr (a b : XT) : XT := fun ρ K Z => a ρ (fun c ρ1 => if c = true then K true ρ1 else b ρ1 K Z) Z
def xNot (a : XT) : XT := fun ρ K Z => a ρ (fun c ρ1 => K (!c) ρ1) Z
variable {ya yb : XT}
theorem pw_and1 (ha : PTt X W a ya) : PWt X W (.BoolOp .And [a] pos) ya := L2.pw_and1 ha
theorem pw_or1 (ha : PTt X W a ya) : PWt X W (.BoolOp .Or [a] pos) ya := L2.pw_or1 ha
theorem pw_and (ha : PTt X W a ya) (hb : PWt X W (.BoolOp .And (b :: rest) pos) yb) : PWt X W (.BoolOp .And (a :: b :: rest) pos) (xAnd ya yb) :=
  PW.imp (L2.pw_and ha hb) fun σ H Q ⟨B, Wd, fr, frv, ρ, K0, Z0, hl, s, hx, hK, hZ⟩ =>
    ⟨B, Wd, fr, frv, ρ, _, Z0, hl, s, hx, fun c ρ1 H1 k1 s1 => by
      by_cases hc : c = true
      · rw [if_pos hc] at k1 ⊢
        exact ⟨B, Wd, fr, frv, ρ1, K0, Z0, hl, s1, k1, hK, hZ⟩
      · rw [if_neg hc] at k1 ⊢
        exact hK _ _ _ k1 s1, hZ⟩
theorem pw_or (ha : PTt X W a ya) (hb : PWt X W (.BoolOp .Or (b :: rest) pos) yb) : PWt X W (.BoolOp .Or (a :: b :: rest) pos) (xOr ya yb) :=
  PW.imp (L2.pw_or ha hb) fun σ H Q ⟨B, Wd, fr, frv, ρ, K0, Z0, hl, s, hx, hK, hZ⟩ =>
    ⟨B, Wd, fr, frv, ρ, _, Z0, hl, s, hx, fun c ρ1 H1 k1 s1 => by
      by_cases hc : c = true
      · rw [if_pos hc] at k1 ⊢
        exact hK _ _ _ k1 s1
      · rw [if_neg hc] at k1 ⊢
        exact ⟨B, Wd, fr, frv, ρ1, K0, Z0, hl, s1, k1, hK, hZ⟩, hZ⟩
theorem PWt.pt (h : PWt X W a ya) : PTt X W a ya := PW.pt h
theorem pt_not (ha : PTt X W a ya) : PTt X W (.UnaryOp .Not a pos) (xNot ya) := PT.imp (L2.pt_not ha) fun σ H Q ⟨B, Wd, fr, frv, ρ, K0, Z0, hl, s, hx, hK, hZ⟩ =>
  ⟨B, Wd, fr, frv, ρ, _, Z0, hl, s, hx, fun c ρ1 H1 k1 s1 => hK _ _ _ k1 s1, hZ⟩
/-- a test read off while all is shared -/
def xBorT (a : XT) : XT := fun ρ K Z => a (frzA ρ) (fun b _ => K b ρ) fun C fs ts _ => False
theorem pt_bor (ha : PTt X W a ya) : PTt X W a (xBorT ya) := ⟨fun pins s0 σ H Q I ⟨B, Wd, fr, frv, ρ, K0, Z0, hl, s, hx, hK, hZ⟩ => by
  obtain ⟨S', e1, e2, h1, back⟩ := s.bor
  refine PT.run ha pins s0 σ H Q I ⟨S', Wd, frzA fr, frv, frzA ρ, _, _, by rw [frzA_len]; exact hl, by rw [← frzA_app]; exact h1, hx, fun b ρ' H' k s' => hK _ _ _ k (back _ _ _ s'), fun _ _ _ _ _ _ q => q.elim⟩⟩
/-- a flat value read off while all is shared -/
def xBor (x : XE) : XE := fun ρ K Z => x (frzA ρ) (fun o _ => o.t.flat = true ∧ K (.sh o.t) ρ) fun C fs ts _ => False
theorem pe_bor (ha : PEt X W e x) : PEt X W e (xBor x) := ⟨fun pins s0 σ H Q I ⟨B, Wd, fr, frv, ρ, K0, Z0, hl, s, hx, hK, hZ⟩ => by
  obtain ⟨S', e1, e2, h1, back⟩ := s.bor
  refine PE.run ha pins s0 σ H Q I ⟨S', Wd, frzA fr, frv, frzA ρ, _, _, by rw [frzA_len]; exact hl, by rw [← frzA_app]; exact h1, hx, fun o ρ' v H' k s' => ?_, fun _ _ _ _ _ _ q => q.elim⟩
  obtain ⟨S, _, _, rp⟩ := s'.rep
  exact hK _ _ _ _ k.2 ((back _ _ _ s').push fun S2 => rp.flat k.1 S2)⟩
/-- a if t else b -/
def xIf (t : XT) (a b : XE) : XE := fun ρ K Z => t ρ (fun c ρ1 => if c = true then a ρ1 K Z else b ρ1 K Z) Z
theorem pe_ifExp (hc : PTt X W c ya) (ha : PEt X W a xa) (hb : PEt X W b xb) : PEt X W (.IfExp c a b pos) (xIf ya xa xb) :=
  PE.imp (L2.pe_ifExp hc ha hb) fun σ H Q ⟨B, Wd, fr, frv, ρ, K0, Z0, hl, s, hx, hK, hZ⟩ =>
    ⟨B, Wd, fr, frv, ρ, _, Z0, hl, s, hx, fun c ρ1 H1 k1 s1 => by
      by_cases hc : c = true
      · rw [if_pos hc] at k1 ⊢
        exact ⟨B, Wd, fr, frv, ρ1, K0, Z0, hl, s1, k1, hK, hZ⟩
      · rw [if_neg hc] at k1 ⊢
        exact ⟨B, Wd, fr, frv, ρ1, K0, Z0, hl, s1, k1, hK, hZ⟩, hZ⟩
/-- a or b, a and b as values, by truth -/
def xOrV (a b : XE) : XE := fun ρ K Z => a ρ (fun o ρ1 => truT o.t fun c => if c = true then K o ρ1 else b ρ1 K Z) Z
def xAndV (a b : XE) : XE := fun ρ K Z => a ρ (fun o ρ1 => truT o.t fun c => if c = true then b ρ1 K Z else K o ρ1) Z
def xNotV (a : XE) : XE := fun ρ K Z => a ρ (fun o ρ1 => truT o.t fun c => K (.sh (.bl (!c))) ρ1) Z
def xNeg (a : XE) : XE := fun ρ K Z => a ρ (fun o ρ1 => match o.t with
  | .int i => K (.sh (.int (-i))) ρ1
  | _ => False) Z
theorem pe_neg (ha : PEt X W a xa) : PEt X W (.UnaryOp .USub a pos) (xNeg xa) := PE.imp (pe_un un_neg ha) fun σ H Q ⟨B, Wd, fr, frv, ρ, K0, Z0, hl, s, hx, hK, hZ⟩ =>
  ⟨B, Wd, fr, frv, ρ, _, Z0, hl, s, hx, fun o ρ1 v H1 k1 s1 => by
    obtain ⟨S, h1, h2, rp⟩ := s1.rep
    cases q : o.t <;> rw [q] at k1 rp <;> first
      | exact (show False from k1).elim
      | exact ⟨_, rp, hK _ _ _ _ k1 (s1.drop.push fun _ => rfl)⟩, hZ⟩
abbrev XO := R → (Option Int → R → Prop) → ZC → Prop
def lO (K : PySem.W.Frag) (W : L2.WX) (x : XO) : TO := fun σ H Q => ∃ B Wd fr frv ρ K0 Z0, fr.length = frv.length ∧ Sim K B Wd (fr ++ ρ) (frv ++ σ) H ∧ x ρ K0 Z0 ∧
  (∀ b ρ' H', K0 b ρ' → Sim K B Wd (fr ++ ρ') (frv ++ σ) H' → Q b H') ∧ ExAt K B Wd fr frv W Z0 σ
def POt (X : Cx) (W : L2.WX) (e : Option Expr) (x : XO) : Prop := PO X e (lO X.K W x)
theorem PO.imp {e : Option Expr} {t t' : TO} (h : PO X e t) (i : ∀ σ H Q, t' σ H Q → t σ H Q) : PO X e t' := ⟨fun pins s σ H Q I q => h.run pins s σ H Q I (i σ H Q q)⟩
def xNoP : XO := fun ρ K _ => K none ρ
def xPart (x : XE) : XO := fun ρ K Z => x ρ (fun o ρ1 => match o.t with
  | .int i => K (some i) ρ1
  | _ => False) Z
theorem po_none : POt X W none xNoP := PO.imp L2.po_none fun σ H Q ⟨B, Wd, fr, frv, ρ, K0, Z0, hl, s, hx, hK, hZ⟩ => hK _ _ _ hx s
theorem po_some (h : PEt X W e x) : POt X W (some e) (xPart x) := PO.imp (L2.po_some h) fun σ H Q ⟨B, Wd, fr, frv, ρ, K0, Z0, hl, s, hx, hK, hZ⟩ =>
  ⟨B, Wd, fr, frv, ρ, _, Z0, hl, s, hx, fun o ρ1 v H1 k1 s1 => by
    obtain ⟨S, h1, h2, rp⟩ := s1.rep
    cases q : o.t <;> rw [q] at k1 rp <;> first
      | exact (show False from k1).elim
      | exact ⟨_, rp, hK _ _ _ k1 s1.drop⟩, hZ⟩
def cutL {α : Type} (xs : List α) (lo hi : Option Int) : List α := (xs.drop (HT.sIx xs.length 0 lo)).take (HT.sIx xs.length xs.length hi - HT.sIx xs.length 0 lo)
def sliceT : T → Option Int → Option Int → (O → Prop) → Prop
  | .tup ts, lo, hi, Q => Q (.sh (.tup (cutL ts lo hi)))
  | .lst ts, lo, hi, Q => Q (.lst ((cutL ts lo hi).map .sh))
  | .kls ts, lo, hi, Q => Q (.lst ((cutL ts lo hi).map .sh))
  | .str z, lo, hi, Q => z.length ≤ sizeLine ∧ Q (.sh (.str (cutS z lo hi)))
  | _, _, _, _ => False
def xSl (x : XE) (l h : XO) : XE := fun ρ K Z => x ρ (fun o ρ1 => l ρ1 (fun lo ρ2 => h ρ2 (fun hi ρ3 => sliceT o.t lo hi fun r => K r ρ3) Z) Z) Z
theorem Reps.drop {K : PySem.W.Frag} {S : Hp} : ∀ {ts : List T} {vs : List V} (n : Nat), Reps K S ts vs → Reps K S (ts.drop n) (vs.drop n)
  | _, _, 0, h => h
  | [], _, _ + 1, h => by rw [show _ = [] from h]; rfl
  | t :: ts, _, n + 1, h => by
    obtain ⟨v, r, rfl, h2, h3⟩ := h
    exact Reps.drop n h3
theorem Reps.take {K : PySem.W.Frag} {S : Hp} : ∀ {ts : List T} {vs : List V} (n : Nat), Reps K S ts vs → Reps K S (ts.take n) (vs.take n)
  | _, _, 0, _ => rfl
  | [], _, _ + 1, h => by rw [show _ = [] from h]; rfl
  | t :: ts, _, n + 1, h => by
    obtain ⟨v, r, rfl, h2, h3⟩ := h
    exact ⟨v, _, rfl, h2, Reps.take n h3⟩
theorem Reps.cut {K : PySem.W.Frag} {S : Hp} {ts : List T} {vs : List V} (h : Reps K S ts vs) (lo hi : Option Int) : Reps K S (cutL ts lo hi) (cutV vs lo hi) := by
  unfold cutL cutV
  rw [h.len]
  exact (h.drop _).take _
theorem Sim.frz1 {K : PySem.W.Frag} {B Wd H : Hp} {os : R} {vs : L2.St} {o : O} {v : V} (h : Sim K B Wd (some o :: os) (some v :: vs) H) : Sim K B Wd (some (.sh o.t) :: os) (some v :: vs) H := by
  obtain ⟨B', Wd', _, h2, back⟩ := Sim.front (as := [o]) (va := [v]) rfl h
  exact back [.sh o.t] [v] _ h2.frz
abbrev rSlAll (K : PySem.W.Frag) : V → Option Int → Option Int → Hp → VK → Prop := fun x lo hi H Q => rSlL K x lo hi H Q ∨ rSlA K x lo hi H Q ∨ rSlS x lo hi H Q
theorem sl_all : SlR X (rSlAll X.K) := sl_list.or (sl_tupA.or sl_str)
theorem cut_whole {α : Type} {xs : List α} {lo hi : Option Int} (h : HT.sIx xs.length 0 lo = 0 ∧ HT.sIx xs.length xs.length hi = xs.length) : cutL xs lo hi = xs := by
  unfold cutL
  rw [h.1, h.2]
  simp
theorem sliceT_ok {B Wd H : Hp} {t : T} {v : V} {lo hi : Option Int} {K0 : O → Prop} {Q : VK} (hs : Smo X.K B Wd [.sh t] [v] H) (g : sliceT t lo hi K0) (hQ : ∀ o v H', K0 o → Smo X.K B Wd [o] [v] H' → Q v H') : rSlAll X.K v lo hi H Q := by
  obtain ⟨S, h1, h2, rx, back⟩ := hs.get1
  cases t <;> first
    | exact (show False from g).elim
    | skip
  · exact .inr (.inr ⟨_, rx, g.1, hQ _ _ _ g.2 (hs.flat fun _ => rfl)⟩)
  · rename_i ts
    obtain ⟨a, va, rfl, ha, ra⟩ := rx
    refine .inr (.inl ⟨a, va, rfl, SqT.of (h2 _ _ ha), fun e => ?_, fun e p hp => hQ _ _ _ g ((back _ _ (ra.cut lo hi)).newS hp fun S r q => ⟨p, _, rfl, q, r⟩)⟩)
    have e' : HT.sIx ts.length 0 lo = 0 ∧ HT.sIx ts.length ts.length hi = ts.length := by rw [ra.len]; exact e
    have g' : K0 (.sh (.tup (cutL ts lo hi))) := g
    rw [cut_whole e'] at g'
    exact hQ _ _ _ g' hs
  · obtain ⟨a, va, rfl, ha, ra⟩ := rx
    exact .inl ⟨a, va, rfl, SqL.of (h2 _ _ ha), fun p hp => hQ _ _ _ g ((back _ _ (ra.cut lo hi)).newL hp)⟩
  · obtain ⟨a, va, rfl, ha, ra⟩ := rx
    exact .inl ⟨a, va, rfl, Same.seq h2 ha, fun p hp => hQ _ _ _ g ((back _ _ (ra.cut lo hi)).newL hp)⟩
theorem pe_slice {lo hi : Option Expr} {l h : XO} {p2 : Pos} (he : PEt X W e x) (hl : POt X W lo l) (hu : POt X W hi h) : PEt X W (.Subscript e (.Slice lo hi none p2) pos) (xSl x l h) :=
  PE.imp (L2.pe_slice sl_all he hl hu) fun σ H Q ⟨B, Wd, fr, frv, ρ, K0, Z0, hlen, s, hx, hK, hZ⟩ =>
    ⟨B, Wd, fr, frv, ρ, _, Z0, hlen, s, hx, fun o ρ1 v H1 k1 s1 => ⟨B, Wd, some (.sh o.t) :: fr, some v :: frv, ρ1, _, Z0, by simp [hlen], s1.frz1, k1, fun vlo ρ2 H2 k2 s2 => ⟨B, Wd, some (.sh o.t) :: fr, some v :: frv, ρ2, _, Z0, by simp [hlen], s2, k2, fun vhi ρ3 H3 k3 s3 => by
      obtain ⟨B', Wd', _, h2, back⟩ := Sim.front (as := [.sh o.t]) (va := [v]) rfl s3
      exact sliceT_ok h2 k3 fun r v' H' kr so => hK _ _ _ _ kr (by simpa using back _ _ _ so), hZ.push⟩, hZ.push⟩, hZ⟩
end
end TL
namespace TL
open PySem PySem.Spec PyProof.Rows L2
abbrev XG := O → R → (R → Prop) → Prop
abbrev XGs := List O → R → (R → Prop) → Prop
/-- σ' is σ but at the places sl -/
def But (sl : List Nat) (σ σ' : L2.St) : Prop := σ'.length = σ.length ∧ ∀ i, i ∉ sl → σ'[i]? = σ[i]?
def lG (K : PySem.W.Frag) (sl : List Nat) (g : XG) : TG := fun v σ H Q => ∃ B Wd fr frv ρ o K0, fr.length = frv.length ∧ Sim K B Wd (some o :: (fr ++ ρ)) (some v :: (frv ++ σ)) H ∧ g o ρ K0 ∧ ∀ ρ' σ' H', K0 ρ' → But sl σ σ' → Sim K B Wd (fr ++ ρ') (frv ++ σ') H' → Q σ' H'
def lGs (K : PySem.W.Frag) (sl : List Nat) (g : XGs) : TGs := fun vs σ H Q => ∃ B Wd fr frv ρ os K0, fr.length = frv.length ∧ os.length = vs.length ∧ Sim K B Wd (os.map some ++ (fr ++ ρ)) (vs.map some ++ (frv ++ σ)) H ∧ g os ρ K0 ∧ ∀ ρ' σ' H', K0 ρ' → But sl σ σ' → Sim K B Wd (fr ++ ρ') (frv ++ σ') H' → Q σ' H'
def PGt (X : Cx) (sl : List Nat) (e : Expr) (g : XG) : Prop := PG X e (lG X.K sl g)
def PGst (X : Cx) (sl : List Nat) (es : List Expr) (g : XGs) : Prop := PGs X es (lGs X.K sl g)
theorem PGs.imp {X : Cx} {es : List Expr} {t t' : TGs} (h : PGs X es t) (i : ∀ v σ H Q, t' v σ H Q → t v σ H Q) : PGs X es t' := ⟨fun pins s σ H v u Q I r q => h.run pins s σ H v u Q I r (i v σ H Q q)⟩
def gN (i : Nat) : XG := fun o ρ K => K (ρ.set i (some o))
def gsNil : XGs := fun os ρ K => os = [] ∧ K ρ
def gsCons (g : XG) (gs : XGs) : XGs := fun os ρ K => match os with
  | o :: r => g o ρ fun ρ1 => gs r ρ1 K
  | [] => False
def gT (n : Nat) (gs : XGs) : XG := fun o ρ K => match o.t with
  | .tup ts => ts.length = n ∧ gs (ts.map .sh) ρ K
  | _ => False
section
variable {K : PySem.W.Frag} {B Wd H : Hp}
theorem Sim.setAt {fr ρ : R} {frv σ : L2.St} {o : O} {v : V} (hl : fr.length = frv.length) (h : Sim K B Wd (some o :: (fr ++ ρ)) (some v :: (frv ++ σ)) H) (i : Nat) : Sim K B Wd (fr ++ ρ.set i (some o)) (frv ++ σ.set i (some v)) H := by
  have h1 := h.put (fr.length + i)
  rw [set_app] at h1
  rw [hl, set_app] at h1
  exact h1
end
section
variable {X : Cx} {W : L2.WX} {a b c e : Expr} {es : List Expr} {xa xb x : XE} {y : XA} {pos p : Pos} {g : XG} {gs : XGs}
theorem pg_name (i : Nat) {n : Str} (hN : X.N.Nodup) (hi : X.N[i]? = some n := by rfl) (hx : Loc X.env.scope n := by first | exact Or.inl rfl | exact Or.inr rfl) (hf : X.fn n = true ∨ X.env.scope.names.lookup n = some .local := by first | exact .inl rfl | exact .inr rfl | assumption) : PGt X [i] (.Name n pos) (gN i) :=
  PG.imp (L2.pg_name (i := i) hN hi hx hf) fun v σ H Q ⟨B, Wd, fr, frv, ρ, o, K0, hl, s, hg, hQ⟩ => hQ _ _ _ hg ⟨List.length_set, fun j hj => List.getElem?_set_ne (fun z => hj (by simp [z]))⟩ (s.setAt hl i)
theorem pgs_nil : PGst X [] [] gsNil := PGs.imp L2.pgs_nil fun vs σ H Q ⟨B, Wd, fr, frv, ρ, os, K0, hl, hv, s, hg, hQ⟩ => by
  obtain ⟨rfl, hk⟩ := hg
  have e := List.eq_nil_of_length_eq_zero hv.symm
  subst e
  exact ⟨rfl, hQ _ _ _ hk ⟨rfl, fun _ _ => rfl⟩ (by simpa using s)⟩
theorem Sim.unrot {K : PySem.W.Frag} {B Wd H : Hp} {l1 l2 : R} {v1 v2 : L2.St} {x : Option O} {w : Option V} (hl : l1.length = v1.length) (h : Sim K B Wd (x :: (l1 ++ l2)) (w :: (v1 ++ v2)) H) : Sim K B Wd (l1 ++ x :: l2) (v1 ++ w :: v2) H := by
  refine h.via (fun j => if j < l1.length then j + 1 else if j = l1.length then 0 else j) (fun a b _ _ => ?_) (by have := h.len; simp at this ⊢; omega) fun j o e => ?_
  · repeat' split
    all_goals omega
  · by_cases h1 : j < l1.length
    · simp only [if_pos h1]
      rw [List.getElem?_append_left h1] at e
      refine ⟨by rw [List.getElem?_cons_succ, List.getElem?_append_left h1]; exact e, fun v q => ?_⟩
      rw [List.getElem?_cons_succ, List.getElem?_append_left (by omega)] at q
      rw [List.getElem?_append_left (by omega)]
      exact q
    · rw [List.getElem?_append_right (by omega)] at e
      simp only [if_neg h1]
      by_cases h2 : j = l1.length
      · simp only [if_pos h2]
        rw [show j - l1.length = 0 by omega] at e
        refine ⟨by simpa using e, fun v q => ?_⟩
        rw [List.getElem?_append_right (by omega), show j - v1.length = 0 by omega]
        simpa using q
      · obtain ⟨k, hk⟩ : ∃ k, j = l1.length + k + 1 := ⟨j - l1.length - 1, by omega⟩
        subst hk
        simp only [if_neg h2]
        rw [show l1.length + k + 1 - l1.length = k + 1 by omega] at e
        refine ⟨?_, fun v q => ?_⟩
        · rw [List.getElem?_cons_succ, List.getElem?_append_right (by omega), show l1.length + k - l1.length = k by omega]
          simpa using e
        · rw [List.getElem?_cons_succ, List.getElem?_append_right (by omega)] at q
          rw [List.getElem?_append_right (by omega), show l1.length + k + 1 - v1.length = k + 1 by omega]
          rw [show l1.length + k - v1.length = k by omega] at q
          simpa using q
theorem pgs_cons {sl sm : List Nat} (h1 : PGt X sl e g) (h2 : PGst X sm es gs) (hs : (assignEach (e :: es) X.env).map (·.2) = assign e X.env :: (assignEach es X.env).map (·.2) := by rfl) : PGst X (sl ++ sm) (e :: es) (gsCons g gs) :=
  PGs.imp (L2.pgs_cons h1 h2 hs) fun vs σ H Q ⟨B, Wd, fr, frv, ρ, os, K0, hl, hv, s, hg, hQ⟩ => by
    cases os with
    | nil => exact (show False from hg).elim
    | cons o os =>
      cases vs with
      | nil => simp at hv
      | cons v vs =>
        have hv' : os.length = vs.length := by simpa using hv
        refine ⟨v, vs, rfl, B, Wd, os.map some ++ fr, vs.map some ++ frv, ρ, o, _, by simp [hl, hv'], by simpa [List.append_assoc] using s, hg, fun ρ1 σ1 H1 k1 b1 s1 => ?_⟩
        exact ⟨B, Wd, fr, frv, ρ1, os, K0, hl, hv', by simpa [List.append_assoc] using s1, k1, fun ρ2 σ2 H2 k2 b2 s2 => hQ _ _ _ k2 ⟨b2.1.trans b1.1, fun i hi => (b2.2 i fun z => hi (List.mem_append_right _ z)).trans (b1.2 i fun z => hi (List.mem_append_left _ z))⟩ s2⟩
theorem pg_tup {sl : List Nat} {k n : Nat} (hc : X.calm = true) (h : PGst X sl es gs) (hn : (assignEach es X.env).length = n := by rfl) (hst : (assignEach es X.env).findIdx? (·.1) = none := by rfl) : PGt X sl (.Tuple es k pos) (gT n gs) :=
  PG.imp (L2.pg_tup hc h hn hst) fun v σ H Q ⟨B, Wd, fr, frv, ρ, o, K0, hl, s, hg, hQ⟩ => by
    obtain ⟨B', Wd', _, h2, back⟩ := Sim.front (as := [.sh o.t]) (va := [v]) rfl s.frz1
    obtain ⟨S, e1, e2, rx, bk⟩ := Smo.get1 h2
    unfold gT at hg
    cases q : o.t <;> rw [q] at hg rx <;> first
      | exact (show False from hg).elim
      | skip
    obtain ⟨a, va, rfl, ha, ra⟩ := rx
    have s2 := back _ _ _ (bk _ _ ra)
    refine ⟨a, va, rfl, SqT.of (e2 _ _ ha), by rw [← ra.len]; exact hg.1, B, Wd, fr, frv, ρ, _, K0, hl, by simpa using ra.len, s2, hg.2, hQ⟩
def xSeq (s t : XS) : XS := fun D ρ => s { D with nx := t D } ρ
def xNext : XS := fun D ρ => D.nx ρ
def xAsg (x : XE) (g : XG) : XS := fun D ρ => x ρ (fun o ρ1 => g o ρ1 D.nx) D.ex
def xExp (x : XE) : XS := fun D ρ => x ρ (fun _ ρ1 => D.nx ρ1) D.ex
def xRet (x : XE) : XS := fun D ρ => x ρ D.rt D.ex
def xRetN : XS := fun D ρ => D.rt (.sh .non) ρ
def xIfS (c : XT) (s t : XS) : XS := fun D ρ => c ρ (fun b ρ1 => if b = true then s D ρ1 else t D ρ1) D.ex
variable {st : Stmt} {rest : List Stmt} {s1 s2 : XS}
theorem pss_nil : PSst X W [] xNext := PSs.imp L2.pss_nil fun D σ H ⟨B, Wd, fr, frv, ρ, D0, hl, s, hx, h1, h2, h3, h4, h5⟩ => h1 _ _ _ hx s
theorem pss_cons (h1 : PSt X W st s1) (h2 : PSst X W rest s2) : PSst X W (st :: rest) (xSeq s1 s2) := PSs.imp (L2.pss_cons h1 h2) fun D σ H ⟨B, Wd, fr, frv, ρ, D0, hl, s, hx, q1, q2, q3, q4, q5⟩ =>
  ⟨B, Wd, fr, frv, ρ, { D0 with nx := s2 D0 }, hl, s, hx, fun ρ1 σ1 H1 k1 e1 => ⟨B, Wd, fr, frv, ρ1, D0, hl, e1, k1, q1, q2, q3, q4, q5⟩, q2, q3, q4, q5⟩
theorem pss_one (h1 : PSt X W st s1) : PSst X W [st] s1 := L2.pss_one h1
theorem ps_break : PSt X W (.Break pos) (fun D ρ => D.bk ρ) := PS.imp L2.ps_break fun D σ H ⟨B, Wd, fr, frv, ρ, D0, hl, s, hx, h1, h2, h3, h4, h5⟩ => h2 _ _ _ hx s
theorem ps_continue : PSt X W (.Continue pos) (fun D ρ => D.ct ρ) := PS.imp L2.ps_continue fun D σ H ⟨B, Wd, fr, frv, ρ, D0, hl, s, hx, h1, h2, h3, h4, h5⟩ => h3 _ _ _ hx s
theorem ps_set (i : Nat) {n : Str} {p1 : Pos} (hN : X.N.Nodup) (he : PEt X W e x) (hi : X.N[i]? = some n := by rfl) (hx : Loc X.env.scope n := by first | exact Or.inl rfl | exact Or.inr rfl) (hs : swapsWith e (some (.Name n p1)) pos.line X.env = pure false := by rfl)
    (hf : X.fn n = true ∨ X.env.scope.names.lookup n = some .local := by first | exact .inl rfl | exact .inr rfl | assumption) : PSt X W (.Assign [.Name n p1] e pos) (xAsg x (gN i)) :=
  PS.imp (L2.ps_set hN hi hx he hs hf) fun D σ H ⟨B, Wd, fr, frv, ρ, D0, hl, s, hx, q1, q2, q3, q4, q5⟩ =>
    ⟨B, Wd, fr, frv, ρ, _, _, hl, s, hx, fun o ρ1 v H1 k1 e1 => q1 _ _ _ k1 (e1.setAt hl i), q5 σ⟩
theorem ps_asg {sl : List Nat} {tg : Expr} (he : PEt X W e x) (hg : PGt X sl tg g) (hs : swapsWithSole [tg] e pos.line X.env = pure false := by rfl) (hw : swappedStores [tg] e X.env = pure none := by rfl)
    (h1 : (assignEach [tg] X.env).map (·.2) = [assign tg X.env] := by rfl) : PSt X W (.Assign [tg] e pos) (xAsg x g) :=
  PS.imp (L2.ps_asg he hg hs hw h1) fun D σ H ⟨B, Wd, fr, frv, ρ, D0, hl, s, hx, q1, q2, q3, q4, q5⟩ =>
    ⟨B, Wd, fr, frv, ρ, _, _, hl, s, hx, fun o ρ1 v H1 k1 e1 => ⟨B, Wd, fr, frv, ρ1, o, _, hl, e1, k1, fun ρ' σ' H' k' _ s' => q1 ρ' σ' H' k' s'⟩, q5 σ⟩
theorem ps_expr (he : PEt X W e x) (hs : swapsWith e none pos.line X.env = pure false := by rfl) : PSt X W (.Expr e pos) (xExp x) :=
  PS.imp (L2.ps_expr he hs) fun D σ H ⟨B, Wd, fr, frv, ρ, D0, hl, s, hx, q1, q2, q3, q4, q5⟩ => ⟨B, Wd, fr, frv, ρ, _, _, hl, s, hx, fun o ρ1 v H1 k1 e1 => q1 _ _ _ k1 e1.drop, q5 σ⟩
theorem ps_ret (he : PEt X W e x) : PSt X W (.Return (some e) pos) (xRet x) := PS.imp (L2.ps_ret he) fun D σ H ⟨B, Wd, fr, frv, ρ, D0, hl, s, hx, q1, q2, q3, q4, q5⟩ =>
  ⟨B, Wd, fr, frv, ρ, _, _, hl, s, hx, fun o ρ1 v H1 k1 e1 => q4 _ _ _ _ _ k1 e1, q5 σ⟩
theorem ps_if {l r : List Stmt} {xc : XT} (hc : PTt X W c xc) (ha : PSst X W l s1) (hb : PSst X W r s2) : PSt X W (.If c l r pos) (xIfS xc s1 s2) :=
  PS.imp (L2.ps_if hc ha hb) fun D σ H ⟨B, Wd, fr, frv, ρ, D0, hl, s, hx, q1, q2, q3, q4, q5⟩ =>
    ⟨B, Wd, fr, frv, ρ, _, _, hl, s, hx, fun b ρ1 H1 k1 e1 => by
      by_cases hb : b = true
      · rw [if_pos hb] at k1 ⊢
        exact ⟨B, Wd, fr, frv, ρ1, D0, hl, e1, k1, q1, q2, q3, q4, q5⟩
      · rw [if_neg hb] at k1 ⊢
        exact ⟨B, Wd, fr, frv, ρ1, D0, hl, e1, k1, q1, q2, q3, q4, q5⟩, q5 σ⟩
/-- I: what holds ahead of each test, with a number that falls -/
def xWhile (c : XT) (b : XS) : XS := fun D ρ => ∃ I : Nat → R → Prop, (∃ m, I m ρ) ∧ ∀ m ρ, I m ρ → c ρ (fun k ρ1 => if k = true then b { D with nx := fun ρ' => ∃ m', m' < m ∧ I m' ρ', ct := fun ρ' => ∃ m', m' < m ∧ I m' ρ', bk := D.nx } ρ1 else D.nx ρ1) D.ex
theorem ps_while {body : List Stmt} {xc : XT} {xb : XS} (hp : PassesOwn (model X.prog X.w) X.A X.env X.xe) (hc : PTt X W c xc) (hb : PSst X W body xb) : PSt X W (.While c body [] pos) (xWhile xc xb) :=
  PS.imp (L2.ps_while hp hc hb) fun D σ H ⟨B, Wd, fr, frv, ρ, D0, hl, s, hx, q1, q2, q3, q4, q5⟩ => by
    obtain ⟨I, ⟨m0, i0⟩, turn⟩ := hx
    refine ⟨fun m σ H => ∃ ρ, Sim X.K B Wd (fr ++ ρ) (frv ++ σ) H ∧ I m ρ, ⟨m0, ρ, s, i0⟩, fun m σ H ⟨ρ, s, i⟩ => ⟨B, Wd, fr, frv, ρ, _, _, hl, s, turn m ρ i, fun k ρ1 H1 k1 e1 => ?_, q5 σ⟩⟩
    by_cases hk : k = true
    · rw [if_pos hk] at k1 ⊢
      exact ⟨fun σ' H' => ∃ m', m' < m ∧ ∃ ρ, Sim X.K B Wd (fr ++ ρ) (frv ++ σ') H' ∧ I m' ρ, fun σ' H' h => h, B, Wd, fr, frv, ρ1, _, hl, e1, k1, fun ρ' σ' H' ⟨m', hm, i'⟩ s' => ⟨m', hm, ρ', s', i'⟩, q1, fun ρ' σ' H' ⟨m', hm, i'⟩ s' => ⟨m', hm, ρ', s', i'⟩, q4, q5⟩
    · rw [if_neg hk] at k1 ⊢
      exact q1 _ _ _ k1 e1
end
end TL
namespace TL
open PySem PySem.Spec PyProof.Rows L2
abbrev XI := R → (List T → R → Prop) → ZC → Prop
/-- over every heap in which S stands the walk goes through ts -/
def IterOk (K : PySem.W.Frag) (Wd S : Hp) (J : It) (ts : List T) : Prop := ∃ (G : Hp → Prop) (Y : Nat → Hp → V → Hp → Prop), Walk J ts.length G Y ∧ (∀ H, Same S H → G H) ∧
  ∀ i t H v H2 B' os vs, ts[i]? = some t → Y i H v H2 → Same S B' → Sim K B' Wd os vs H → Sim K B' Wd (some (.sh t) :: os) (some v :: vs) H2
def lI (K : PySem.W.Frag) (W : L2.WX) (x : XI) : TI := fun σ H Rr => ∃ B Wd fr frv ρ K0 Z0, fr.length = frv.length ∧ Sim K B Wd (fr ++ ρ) (frv ++ σ) H ∧ x ρ K0 Z0 ∧
  (∀ ts ρ' S J H', K0 ts ρ' → Same B S → Sim K S Wd (fr ++ ρ') (frv ++ σ) H' → IterOk K Wd S J ts → Rr J H') ∧ ExAt K B Wd fr frv W Z0 σ
def PIt (X : Cx) (W : L2.WX) (tg e : Expr) (x : XI) : Prop := PI X tg e (lI X.K W x)
theorem PI.imp {X : Cx} {tg e : Expr} {t t' : TI} (h : PI X tg e t) (i : ∀ σ H Q, t' σ H Q → t σ H Q) : PI X tg e t' := ⟨fun pins s σ H Q I q => h.run pins s σ H Q I (i σ H Q q)⟩
/-- the trees of a walked value -/
def T.its : T → Option (List T)
  | .lst ts => some ts
  | .tup ts => some ts
  | .ktp ts => some ts
  | .kls ts => some ts
  | .str z => some (z.cps.toList.map fun c => .str ⟨#[c]⟩)
  | _ => none
def xSeqI (x : XE) : XI := fun ρ K Z => x ρ (fun o ρ1 => match o.t.its with
  | some ts => K ts ρ1
  | none => False) Z
section
variable {K : PySem.W.Frag} {B Wd S H : Hp} {ts : List T} {vs : List V} {a : Addr}
theorem Reps.push {os : R} {us : L2.St} {i : Nat} {t : T} {v : V} (r : Reps K S ts vs) (e : ts[i]? = some t) (ev : vs[i]? = some v) {B' : Hp} (b : Same S B') (h : Sim K B' Wd os us H) : Sim K B' Wd (some (.sh t) :: os) (some v :: us) H := by
  obtain ⟨S', fp, s⟩ := h
  obtain ⟨w, e1, e2⟩ := r.get e
  rw [ev] at e1
  cases e1
  exact ⟨S', _, s.push (e2.mono (b.trans s.bs))⟩
theorem iter_list (h : SqL K S a vs) (r : Reps K S ts vs) : IterOk K Wd S (Itl K a) ts := by
  refine ⟨_, _, by rw [r.len]; exact walk_list, fun H e => e.seq h, fun i t H v H2 B' os us et y b s => ?_⟩
  obtain ⟨rfl, ev⟩ := y
  exact r.push et ev b s
theorem iter_tup (h : SqT K S a vs) (r : Reps K S ts vs) : IterOk K Wd S (Itt K a) ts := by
  refine ⟨_, _, by rw [r.len]; exact walk_tup, fun H e => SqT.mono e h, fun i t H v H2 B' os us et y b s => ?_⟩
  obtain ⟨rfl, ev⟩ := y
  exact r.push et ev b s
theorem iter_str {z : Str} : IterOk K Wd S (Its z) (z.cps.toList.map fun c => .str ⟨#[c]⟩) := by
  refine ⟨_, _, by rw [List.length_map, Array.length_toList]; exact walk_str, fun H e => trivial, fun i t H v H2 B' os us et y b s => ?_⟩
  obtain ⟨rfl, c, ec, rfl⟩ := y
  rw [List.getElem?_map, Array.getElem?_toList, ec] at et
  cases et
  exact s.push fun _ => rfl
def rangeL (lo : Int) (n : Nat) : List T := (List.range n).map fun (i : Nat) => .int (lo + i)
theorem iter_range {lo : Int} {n : Nat} : IterOk K Wd S (Itr lo n) (rangeL lo n) := by
  refine ⟨_, _, by unfold rangeL; rw [List.length_map, List.length_range]; exact walk_range, fun H e => trivial, fun i t H v H2 B' os us et y b s => ?_⟩
  obtain ⟨rfl, rfl⟩ := y
  unfold rangeL at et
  rw [List.getElem?_map] at et
  cases q : (List.range n)[i]? with
  | none => rw [q] at et; cases et
  | some j =>
    rw [q] at et
    cases et
    have e2 := (List.getElem?_eq_some_iff.mp q)
    obtain ⟨h1, h2⟩ := e2
    rw [List.getElem_range] at h2
    subst h2
    exact s.push fun _ => rfl
def rangeC (lo c : Int) (n : Nat) : List T := (List.range n).map fun (i : Nat) => .int (lo + (i : Int) * c)
theorem iter_rangeC {lo c : Int} {n : Nat} : IterOk K Wd S (Itc lo c n) (rangeC lo c n) := by
  refine ⟨_, _, by unfold rangeC; rw [List.length_map, List.length_range]; exact walk_rangeC, fun H e => trivial, fun i t H v H2 B' os us et y b s => ?_⟩
  obtain ⟨rfl, rfl⟩ := y
  unfold rangeC at et
  rw [List.getElem?_map] at et
  cases q : (List.range n)[i]? with
  | none => rw [q] at et; cases et
  | some j =>
    rw [q] at et
    cases et
    have e2 := (List.getElem?_eq_some_iff.mp q)
    obtain ⟨h1, h2⟩ := e2
    rw [List.getElem_range] at h2
    subst h2
    exact s.push fun _ => rfl
/-- a new pair of two shared values -/
theorem Sim.pair {os : R} {us : L2.St} {t u : T} {v w : V} {p : Addr} {B' : Hp} (h : Sim K B' Wd os us H) (b : Same S B') (r1 : Rep K S t v) (r2 : Rep K S u w) (hp : H p = none) :
    Sim K B' Wd (some (.sh (.tup [t, u])) :: os) (some (.ref p) :: us) (upd H p (.tup [v, w])) := by
  obtain ⟨S', fp, s⟩ := h
  have h2 : Sim K B' Wd ([O.sh t, .sh u].map some ++ os) ([v, w].map some ++ us) H := by
    have := (s.push (r2.mono (b.trans s.bs))).push (r1.mono (b.trans s.bs))
    exact ⟨_, _, this⟩
  obtain ⟨B2, Wd2, _, h3, back⟩ := Sim.front (as := [.sh t, .sh u]) (va := [v, w]) rfl h2
  exact back [_] [_] _ (h3.newT hp)
def enumL : Nat → List T → List T
  | _, [] => []
  | k, t :: ts => .tup [.int k, t] :: enumL (k + 1) ts
def zipL (xs ys : List T) : List T := (xs.zip ys).map fun p => .tup [p.1, p.2]
end
section
variable {X : Cx} {W : L2.WX} {a b c e tg : Expr} {es : List Expr} {xa xb x : XE} {y : XA} {pos p : Pos} {g : XG} {te : TE}
/-- a list, a tuple, a text -/
theorem pi_val (he : PE X e te) : PI X tg e (fun σ H Rr => te σ H fun v H1 => (∃ a, v = .ref a ∧ (∃ xs, SqL X.K H1 a xs) ∧ Rr (Itl X.K a) H1) ∨ (∃ a, v = .ref a ∧ (∃ xs, SqT X.K H1 a xs) ∧ Rr (Itt X.K a) H1) ∨ ∃ z, v = .str z ∧ Rr (Its z) H1) := by
  refine ⟨fun pins s0 σ H Rr I0 hq => thn (he.run pins s0 σ H _ I0 hq) fun u s2 he2 => ?_⟩
  obtain ⟨v, H2, I2, rv, alt⟩ := he2
  rcases alt with ⟨a, rfl, ⟨ys, hy⟩, fin⟩ | ⟨a, rfl, ⟨ys, hy⟩, fin⟩ | ⟨z, rfl, fin⟩
  · obtain rfl : u = Value.ref a := rv
    obtain ⟨us, _, pl, _⟩ := I2.list hy
    exact wpAny_pyIter_list pl.isList (pi_one (tk := s2.toks) I2 _ (turn_list a _) ⟨_, Heap.get?_push_size _ rfl, rfl, rfl⟩ fin)
  · obtain rfl : u = Value.ref a := rv
    obtain ⟨us, _, pt, _⟩ := I2.tuple hy
    exact wpAny_pyIter_tuple (show s2.heap.IsTuple a us.toArray from pt) (pi_one (tk := s2.toks) I2 _ (turn_tuple a _) ⟨_, Heap.get?_push_size _ rfl, rfl, rfl⟩ fin)
  · obtain ⟨tk, rfl⟩ := rv
    cases wide : z.cps.all (· < 128)
    · exact wpAny_pyIter_wide wide (pi_one (tk := s2.toks) I2 _ (turn_str _ z tk "str_iterator" (.inr rfl)) ⟨_, Heap.get?_push_size _ rfl, rfl, rfl⟩ fin)
    · exact wpAny_pyIter_ascii wide (pi_one (tk := s2.toks) I2 _ (turn_str _ z tk "str_ascii_iterator" (.inl rfl)) ⟨_, Heap.get?_push_size _ rfl, rfl, rfl⟩ fin)
theorem pi_seq (he : PEt X W e x) : PIt X W tg e (xSeqI x) := PI.imp (pi_val he) fun σ H Q ⟨B, Wd, fr, frv, ρ, K0, Z0, hl, s, hx, hK, hZ⟩ =>
  ⟨B, Wd, fr, frv, ρ, _, Z0, hl, s, hx, fun o ρ1 v H1 k1 s1 => by
    obtain ⟨S, e1, e2, s2⟩ := s1.frz1.self
    obtain ⟨S3, e3, e4, rp⟩ := s2.rep
    have rp' : Rep X.K S3 o.t v := rp
    obtain ⟨S4, e5, e6, s4⟩ := s1.frz1.self
    obtain ⟨S5, fp5, s5⟩ := s4
    obtain ⟨v', ev, rv⟩ := s5.own 0 (.sh o.t) rfl
    cases ev
    have r0 : Rep X.K S5 o.t v := rv.2
    have s6 : Sim X.K S5 Wd (fr ++ ρ1) (frv ++ σ) H1 := (Sim.drop ⟨S5, fp5, s5.self⟩)
    have b6 : Same B S5 := e5.trans s5.bs
    cases q : o.t with
    | lst ts =>
      rw [q] at k1 r0
      obtain ⟨a, va, rfl, ha, ra⟩ := r0
      exact .inl ⟨a, rfl, ⟨va, SqL.of (s5.sh _ _ ha)⟩, hK ts ρ1 S5 _ H1 k1 b6 s6 (iter_list (SqL.of ha) ra)⟩
    | kls ts =>
      rw [q] at k1 r0
      obtain ⟨a, va, rfl, ha, ra⟩ := r0
      exact .inl ⟨a, rfl, ⟨va, Same.seq s5.sh ha⟩, hK ts ρ1 S5 _ H1 k1 b6 s6 (iter_list ha ra)⟩
    | tup ts =>
      rw [q] at k1 r0
      obtain ⟨a, va, rfl, ha, ra⟩ := r0
      exact .inr (.inl ⟨a, rfl, ⟨va, SqT.of (s5.sh _ _ ha)⟩, hK ts ρ1 S5 _ H1 k1 b6 s6 (iter_tup (SqT.of ha) ra)⟩)
    | ktp ts =>
      rw [q] at k1 r0
      obtain ⟨a, va, rfl, ha, ra⟩ := r0
      exact .inr (.inl ⟨a, rfl, ⟨va, SqT.mono s5.sh ha⟩, hK ts ρ1 S5 _ H1 k1 b6 s6 (iter_tup ha ra)⟩)
    | str z =>
      rw [q] at k1 r0
      exact .inr (.inr ⟨z, r0, hK _ ρ1 S5 _ H1 k1 b6 s6 iter_str⟩)
    | _ => rw [q] at k1; exact (show False from k1).elim, hZ⟩
/-- range -/
def xRng1 (y : XA) : XI := fun ρ K Z => y ρ (fun os ρ1 => match O.ts os with
  | [.int j] => (-(2 ^ 62) ≤ j ∧ j < 2 ^ 62) ∧ K (rangeL 0 j.toNat) ρ1
  | _ => False) Z
def xRng2 (y : XA) : XI := fun ρ K Z => y ρ (fun os ρ1 => match O.ts os with
  | [.int i, .int j] => (-(2 ^ 62) ≤ i ∧ i < 2 ^ 62 ∧ -(2 ^ 62) ≤ j ∧ j < 2 ^ 62) ∧ K (rangeL i (j - i).toNat) ρ1
  | _ => False) Z
theorem stack_reps {K : PySem.W.Frag} {B Wd H : Hp} {fr : R} {frv : L2.St} {os : List O} {vs : List V} (hle : os.length = vs.length) (h : Sim K B Wd (os.map some ++ fr) (vs.map some ++ frv) H) :
    ∃ S, Same B S ∧ Same S H ∧ Reps K S (O.ts os) vs ∧ Sim K S Wd fr frv H := by
  obtain ⟨B', Wd', hB, h2, back⟩ := Sim.front hle h
  have h3 := back _ _ _ h2.frz
  obtain ⟨S, fp, s⟩ := h3
  have hl2 : (O.ts os).length = vs.length := by rw [← hle, O.ts_map, List.length_map]
  have hl3 := s.len
  refine ⟨S, s.bs, s.sh, Reps.of hl2 fun i t v et ev => ?_, ?_⟩
  · obtain ⟨w, e1, e2⟩ := s.own i (.sh t) (by
      rw [List.getElem?_append_left (by simpa using (List.getElem?_eq_some_iff.mp et).1), List.getElem?_map, List.getElem?_map, et]
      rfl)
    rw [List.getElem?_append_left (by simpa using (List.getElem?_eq_some_iff.mp ev).1), List.getElem?_map, ev] at e1
    cases e1
    exact e2.2
  · have h4 : Sim K S Wd (((O.ts os).map .sh).map some ++ fr) (vs.map some ++ frv) H := ⟨S, fp, s.self⟩
    refine h4.via (fun i => (O.ts os).length + i) (fun i j _ _ => by omega) (by simp at hl3; omega) fun i o e => ⟨?_, fun v q => ?_⟩
    · rw [List.getElem?_append_right (by simp)]
      rw [List.length_map, List.length_map, Nat.add_sub_cancel_left]
      exact e
    · rw [List.getElem?_append_right (by simp; omega)] at q
      rw [List.length_map, hl2, Nat.add_sub_cancel_left] at q
      exact q
theorem pi_range1 (hg : Gl X "range") (hm : X.mg "range" = none) (ha : PAt X W [a] y) (hs : starEach [a] X.env = [(false, eval a X.env)] := by rfl) : PIt X W tg (.Call (.Name "range" p) [a] [] pos) (xRng1 y) :=
  PI.imp (L2.pi_range1 hg hm ha hs) fun σ H Q ⟨B, Wd, fr, frv, ρ, K0, Z0, hl, s, hx, hK, hZ⟩ => ⟨B, Wd, fr, frv, ρ, _, Z0, hl, s, hx, fun os ρ1 vs H1 hle k1 s1 => by
    obtain ⟨S, e1, e2, rp, s2⟩ := stack_reps hle s1
    split at k1
    · rename_i j q
      rw [q] at rp
      obtain ⟨v, r, rfl, rv, rr⟩ := rp
      have rr' : r = [] := rr
      subst rr'
      exact ⟨j, congrArg (fun z => [z]) (show v = .int j from rv), k1.1.1, k1.1.2, hK _ _ _ _ _ k1.2 e1 s2 iter_range⟩
    · exact k1.elim, hZ⟩
/-- zip of two lists -/
def xZip (y : XA) : XI := fun ρ K Z => y ρ (fun os ρ1 => match O.ts os with
  | [.lst ts, .lst us] => K (zipL ts us) ρ1
  | _ => False) Z
def xFor (it : XI) (g : XG) (b : XS) : XS := fun D ρ => it ρ (fun ts ρ1 => ∃ I : Nat → R → Prop, I 0 ρ1 ∧
  (∀ i t ρ, ts[i]? = some t → I i ρ → g (.sh t) ρ fun ρ2 => b { D with nx := I (i + 1), ct := I (i + 1), bk := D.nx } ρ2) ∧ ∀ ρ, I ts.length ρ → D.nx ρ) D.ex
theorem ps_for {sl : List Nat} {iter : Expr} {body : List Stmt} {xi : XI} {xb : XS} (hp : PassesOwn (model X.prog X.w) X.A X.env X.xe) (hc : X.calm = true) (hi : PIt X W tg iter xi) (hg : PGt X sl tg g) (hb : PSst X W body xb)
    (hs : ∀ x, foldedSetIterable iter X.env x = pure x := by intro _; rfl) : PSt X W (.For tg iter body [] pos) (xFor xi g xb) :=
  PS.imp (L2.ps_for hp hc hi hg hb hs) fun D σ H ⟨B, Wd, fr, frv, ρ, D0, hl, s, hx, q1, q2, q3, q4, q5⟩ => ⟨B, Wd, fr, frv, ρ, _, _, hl, s, hx, fun ts ρ1 S J H1 k1 bs s1 ik => by
    obtain ⟨I, i0, turn, done⟩ := k1
    obtain ⟨G, Y, wk, gk, yk⟩ := ik
    refine for_it wk (fun i σ H => ∃ ρ, Sim X.K S Wd (fr ++ ρ) (frv ++ σ) H ∧ I i ρ) ⟨ρ1, s1, i0⟩ (fun i σ H _ ⟨ρ, s, _⟩ => by
      obtain ⟨S', e1, e2, _⟩ := s.self
      exact gk H (e1.trans e2)) (fun i x σ H H' hi ⟨ρ, s, ii⟩ hy => ?_) fun σ H ⟨ρ, s, ii⟩ => q1 _ _ _ (done ρ ii) (s.rebase bs)
    obtain ⟨t, et⟩ : ∃ t, ts[i]? = some t := ⟨ts[i], List.getElem?_eq_getElem hi⟩
    have s3 := yk i t H x H' S _ _ et hy (Same.refl _) s
    refine ⟨S, Wd, fr, frv, ρ, .sh t, _, hl, s3, turn i t ρ et ii, fun ρ2 σ2 H2 k2 _ s2 => ?_⟩
    exact ⟨S, Wd, fr, frv, ρ2, _, hl, s2, k2, fun ρ' σ' H' k' s' => ⟨ρ', s', k'⟩, fun ρ' σ' H' k' s' => q1 _ _ _ k' (s'.rebase bs), fun ρ' σ' H' k' s' => ⟨ρ', s', k'⟩, fun o ρ' v σ' H' k' s' => q4 _ _ _ _ _ k' (s'.rebase bs),
      fun σ' C fs us ρ' d H' z s' => q5 σ' C fs us ρ' d H' z (s'.rebase bs)⟩, q5 σ⟩
end
end TL
namespace TL
open PySem PySem.Spec PyProof.Rows L2
def O.un : O → O
  | .io _ o => o
  | o => o
def O.re : O → O → O
  | .io v _, o => .io v o
  | _, o => o
section
variable {K : PySem.W.Frag} {B Wd S H : Hp} {os as : List O} {vs va : List V} {fr ρ : R} {frv σ : L2.St} {a : Addr} {c o : O} {v : V} {j : Nat}
theorem Smo.un (h : Smo K B Wd (c :: as) (v :: va) H) : Smo K B Wd (c.un :: as) (v :: va) H ∧ ∀ o' as' va' H', Smo K B Wd (o' :: as') (v :: va') H' → Smo K B Wd (c.re o' :: as') (v :: va') H' := by
  cases c with
  | io v0 o =>
    obtain ⟨S, f, h1, h2, h3, ⟨w, r, f1, f2, e, ⟨ev, ow⟩, h5, ef⟩, rest⟩ := h
    cases e
    subst ev
    refine ⟨⟨S, f, h1, h2, h3, ⟨v, va, f1, f2, rfl, ow, h5, ef⟩, rest⟩, fun o' as' va' H' h' => ?_⟩
    obtain ⟨S', f', h1', h2', h3', ⟨w', r', f1', f2', e', ow', h5', ef'⟩, rest'⟩ := h'
    cases e'
    exact ⟨S', f', h1', h2', h3', ⟨v, va', f1', f2', rfl, ⟨rfl, ow'⟩, h5', ef'⟩, rest'⟩
  | _ => exact ⟨h, fun o' as' va' H' h' => h'⟩
/-- the owned list in slot j, the stack as in front of all -/
theorem Sim.listAt (h : Sim K B Wd (as.map some ++ (fr ++ ρ)) (va.map some ++ (frv ++ σ)) H) (hl : fr.length = frv.length) (hla : as.length = va.length) (e : ρ[j]? = some (some c)) (ec : c.un = .lst os) :
    ∃ a vs, σ[j]? = some (some (.ref a)) ∧ H a = some (.lst vs) ∧ os.length = vs.length ∧ ∀ (os' as' : List O) (vs' va' : List V), as'.length = va'.length →
      (∀ H' S f g, Same B S → Owns K H' S os vs f → Owns K H' S as va g → ∃ f' g' r, Owns K H' S os' vs' f' ∧ Owns K H' S as' va' g' ∧ (f ++ g).Perm (f' ++ g' ++ r)) →
      Sim K B Wd (as'.map some ++ (fr ++ ρ.set j (some (c.re (.lst os'))))) (va'.map some ++ (frv ++ σ)) (upd H a (.lst vs')) := by
  have hj : j < ρ.length := (List.getElem?_eq_some_iff.mp e).1
  obtain ⟨v, h1, h2⟩ := h.pull (n := as.length + (fr.length + j)) (o := c) (by
    rw [List.getElem?_append_right (by simp), List.length_map, Nat.add_sub_cancel_left, get_app]
    exact e)
  have h1' : σ[j]? = some (some v) := by
    rw [List.getElem?_append_right (by simp; omega), List.length_map, hla, Nat.add_sub_cancel_left, hl, get_app] at h1
    exact h1
  have hs : (as.map some ++ (fr ++ ρ)).set (as.length + (fr.length + j)) none = as.map some ++ (fr ++ ρ.set j none) := by
    rw [List.set_append_right _ _ (by simp), List.length_map, Nat.add_sub_cancel_left, set_app]
  rw [hs] at h2
  obtain ⟨B', Wd', hBB, h3, back⟩ := Sim.front (as := c :: as) (va := v :: va) (by simp [hla]) (by simpa using h2)
  obtain ⟨h4, re⟩ := h3.un
  rw [ec] at h4
  have h5 := h4
  obtain ⟨a, vs, ev, ha, hlen⟩ : ∃ a vs, v = .ref a ∧ H a = some (.lst vs) ∧ os.length = vs.length := by
    obtain ⟨S, f, _, _, _, ⟨w, r, f1, f2, ew, ⟨a, vs, fq, e2, e3, e4, _⟩, _⟩, _⟩ := h4
    cases ew
    exact ⟨a, vs, e2, e3, (Owns.len e4).1⟩
  subst ev
  obtain ⟨vs2, ha2, _, upd'⟩ := h5.setL
  rw [ha] at ha2
  cases ha2
  refine ⟨a, vs, h1', ha, hlen, fun os' as' vs' va' hla' hh => ?_⟩
  have h6 := re _ _ _ _ (upd' os' as' vs' va' fun H' S f g hS => hh H' S f g (hBB.trans hS))
  have h7 := back (c.re (.lst os') :: as') (.ref a :: va') _ h6
  have h8 := Sim.put (os := as'.map some ++ (fr ++ ρ.set j none)) (vs := va'.map some ++ (frv ++ σ)) (x := some (c.re (.lst os'))) (v := some (.ref a)) (by simpa using h7) (as'.length + (fr.length + j))
  have e1 : (as'.map some ++ (fr ++ ρ.set j none)).set (as'.length + (fr.length + j)) (some (c.re (.lst os'))) = as'.map some ++ (fr ++ ρ.set j (some (c.re (.lst os')))) := by
    rw [List.set_append_right _ _ (by simp), List.length_map, Nat.add_sub_cancel_left, set_app, List.set_set]
  have e2 : (va'.map some ++ (frv ++ σ)).set (as'.length + (fr.length + j)) (some (.ref a)) = va'.map some ++ (frv ++ σ) := by
    rw [List.set_append_right _ _ (by simp; omega), List.length_map, hla', Nat.add_sub_cancel_left, hl, set_app, set_id h1']
  rw [e1, e2] at h8
  exact h8
end
def slotL (ρ : R) (j : Nat) : Option (O × List O) := match ρ[j]? with
  | some (some c) => (match c.un with
    | .lst os => some (c, os)
    | _ => none)
  | _ => none
theorem slotL_some {ρ : R} {j : Nat} {c : O} {os : List O} (h : slotL ρ j = some (c, os)) : ρ[j]? = some (some c) ∧ c.un = .lst os := by
  unfold slotL at h
  split at h
  · rename_i c' e
    split at h
    · rename_i os' e2
      cases h
      exact ⟨e, e2⟩
    · cases h
  · cases h
def putL (ρ : R) (j : Nat) (c : O) (os : List O) : R := ρ.set j (some (c.re (.lst os)))
def isSL (ρ : R) (j : Nat) : Prop := (slotL ρ j).isSome = true
/-- x.append(e), x.pop(), x.pop(e), x.extend(e), x.insert(i, e) of the list in slot j -/
def xApp (j : Nat) (y : XA) : XE := fun ρ K Z => isSL ρ j ∧ y ρ (fun as ρ1 => match slotL ρ1 j, as with
  | some (c, os), [o] => os.length < sizeLine ∧ K (.sh .non) (putL ρ1 j c (os ++ [o]))
  | _, _ => False) Z
def xPop (j : Nat) : XE := fun ρ K Z => match slotL ρ j with
  | some (c, os) => (match os.getLast? with
    | some o => K o (putL ρ j c os.dropLast)
    | none => False)
  | _ => False
def xExt (j : Nat) (y : XA) : XE := fun ρ K Z => isSL ρ j ∧ y ρ (fun as ρ1 => match slotL ρ1 j, O.ts as with
  | some (c, os), [.lst ts] => os.length + ts.length ≤ sizeLine ∧ K (.sh .non) (putL ρ1 j c (os ++ ts.map .sh))
  | _, _ => False) Z
section
variable {X : Cx} {W : L2.WX} {e e1 e2 : Expr} {es : List Expr} {x : XE} {y : XA} {pos p apos cpos : Pos} {n name : Str}
theorem bm_core {id : String} {r : V → List V → Hp → VK → Prop} (j : Nat) {g : R → List O → (O → R → Prop) → Prop}
    (pa : PlainAttrs "list") (slot : Slot "list" name id) (hty : typeOf (.builtin id) = pure (.type "method_descriptor")) (hm : MtR X id r) (ha : PAt X W (e :: es) y)
    (ok : ∀ B Wd fr frv ρ σ os as va H K0 Q c, fr.length = frv.length → as.length = va.length → slotL ρ j = some (c, os) → Sim X.K B Wd (as.map some ++ (fr ++ ρ)) (va.map some ++ (frv ++ σ)) H → g ρ as K0 →
      (∀ o ρ' v H', K0 o ρ' → Sim X.K B Wd (some o :: (fr ++ ρ')) (some v :: (frv ++ σ)) H' → Q v H') → ∃ l, σ[j]? = some (some (.ref l)) ∧ r (.ref l) va H Q)
    (gs : ∀ ρ as K, g ρ as K → isSL ρ j)
    (hN : X.N[j]? = some n) (hv : Vis X.env.scope n) (hd : (n == ("__debug__" : Str)) = false) (hcd : (n == ("__classdict__" : Str)) = false)
    (hbase : attributeBase (.Name n p) name X.env (eval (.Name n p) X.env) = eval (.Name n p) X.env)
    (hfew : ((backTo cpos (starEach (e :: es) X.env)).all (fun x => !x.1) && (backToKw cpos (keywordEach [] X.env)).all (fun x => x.1.isSome)
      && decide ((e :: es).length + ([] : List Keyword).length + (if ([] : List Keyword).isEmpty then 0 else 1) < 30)) = true)
    (hline : (apos.endLine == cpos.line) = true) (hs : starEach (e :: es) X.env = (false, eval e X.env) :: starEach es X.env) (hplain : (backTo cpos (starEach es X.env)).any (·.1) = false) :
    PEt X W (.Call (.Attribute (.Name n p) name apos) (e :: es) [] cpos) (fun ρ K Z => isSL ρ j ∧ y ρ (fun as ρ1 => g ρ1 as K) Z) :=
  PE.imp (L2.pe_bm pa slot hty hm (pe_var (i := j) hN hv hd hcd) ha hbase hfew hline hs hplain) fun σ H Q ⟨B, Wd, fr, frv, ρ, K0, Z0, hl, s, hx, hK, hZ⟩ => by
    obtain ⟨h0, hx⟩ := hx
    obtain ⟨⟨c, os⟩, hsl⟩ := Option.isSome_iff_exists.mp h0
    obtain ⟨q1, q2⟩ := slotL_some hsl
    obtain ⟨a, vs, ea, ha', _, _⟩ := Sim.listAt (as := []) (va := []) (by simpa using s) hl rfl q1 q2
    refine ⟨.ref a, ea, .inl ⟨rfl, vs, SqL.of ha'⟩, B, Wd, fr, frv, ρ, _, Z0, hl, s, hx, fun as ρ1 va H1 hla k1 s1 => ?_, hZ⟩
    obtain ⟨⟨c1, os1⟩, hsl1⟩ := Option.isSome_iff_exists.mp (gs _ _ _ k1)
    obtain ⟨l, el, q⟩ := ok B Wd fr frv ρ1 σ os1 as va H1 K0 Q c1 hl hla hsl1 s1 k1 hK
    rw [ea] at el
    cases el
    exact q
theorem pe_app (j : Nat) (ha : PAt X W [e] y)
    (hN : X.N[j]? = some n := by rfl) (hv : Vis X.env.scope n := by first | exact Or.inl rfl | exact Or.inr (Or.inl rfl) | exact Or.inr (Or.inr rfl)) (hd : (n == ("__debug__" : Str)) = false := by decide) (hcd : (n == ("__classdict__" : Str)) = false := by decide)
    (hbase : attributeBase (.Name n p) "append" X.env (eval (.Name n p) X.env) = eval (.Name n p) X.env := by rfl)
    (hfew : ((backTo cpos (starEach [e] X.env)).all (fun x => !x.1) && (backToKw cpos (keywordEach [] X.env)).all (fun x => x.1.isSome)
      && decide (([e] : List Expr).length + ([] : List Keyword).length + (if ([] : List Keyword).isEmpty then 0 else 1) < 30)) = true := by rfl)
    (hline : (apos.endLine == cpos.line) = true := by rfl) (hs : starEach [e] X.env = (false, eval e X.env) :: starEach [] X.env := by rfl) (hplain : (backTo cpos (starEach [] X.env)).any (·.1) = false := by rfl) :
    PEt X W (.Call (.Attribute (.Name n p) "append" apos) [e] [] cpos) (xApp j y) :=
  bm_core j PySem.F.plainAttrs_list PySem.F.slot_list_append PySem.F.type_list_append mt_append ha (g := fun ρ1 as K => match slotL ρ1 j, as with
    | some (c, os), [o] => os.length < sizeLine ∧ K (.sh .non) (putL ρ1 j c (os ++ [o]))
    | _, _ => False) (fun B Wd fr frv ρ σ os as va H K0 Q c hl hla hsl s g hQ => by
    rw [hsl] at g
    obtain ⟨q1, q2⟩ := slotL_some hsl
    match as, g with
    | [o], g =>
      obtain ⟨v, rfl⟩ : ∃ v, va = [v] := by
        match va, hla with
        | [v], _ => exact ⟨v, rfl⟩
      obtain ⟨a, vs, ea, ha', hlen, up⟩ := Sim.listAt s hl hla q1 q2
      refine ⟨a, ea, a, vs, v, rfl, rfl, ha', by rw [← hlen]; exact g.1, hQ _ _ _ _ g.2 ?_⟩
      have h9 := up (os ++ [o]) [] (vs ++ [v]) [] rfl fun H' S f g hS o1 o2 => ⟨f ++ g, [], [], o1.app o2, ⟨rfl, rfl⟩, by simp⟩
      exact Sim.push (by simpa [putL] using h9) fun _ => rfl
    | [], g => exact (show False from g).elim
    | _ :: _ :: _, g => exact (show False from g).elim) (fun ρ as K g => by
    unfold isSL
    cases q : slotL ρ j with
    | none => rw [q] at g; exact (show False from g).elim
    | some z => rfl) hN hv hd hcd hbase hfew hline hs hplain
theorem ixN_seqL {n : Nat} {i : Int} {k : Nat} (h : ixN n i = some k) : seqIndex? i n = some k ∧ k < n := let ⟨a, b, _, _⟩ := ixN_seq h; ⟨a, b⟩
theorem split_at {α : Type} : ∀ {l : List α} {k : Nat} {x : α}, l[k]? = some x → l = l.take k ++ x :: l.drop (k + 1)
  | [], _, _, h => by simp at h
  | a :: l, 0, x, h => by simp at h; simp [h]
  | a :: l, k + 1, x, h => by
    simp at h
    simp only [List.take_succ_cons, List.drop_succ_cons, List.cons_append]
    rw [← split_at h]
theorem pe_ext (j : Nat) (ha : PAt X W [e] y)
    (hN : X.N[j]? = some n := by rfl) (hv : Vis X.env.scope n := by first | exact Or.inl rfl | exact Or.inr (Or.inl rfl) | exact Or.inr (Or.inr rfl)) (hd : (n == ("__debug__" : Str)) = false := by decide) (hcd : (n == ("__classdict__" : Str)) = false := by decide)
    (hbase : attributeBase (.Name n p) "extend" X.env (eval (.Name n p) X.env) = eval (.Name n p) X.env := by rfl)
    (hfew : ((backTo cpos (starEach [e] X.env)).all (fun x => !x.1) && (backToKw cpos (keywordEach [] X.env)).all (fun x => x.1.isSome)
      && decide (([e] : List Expr).length + ([] : List Keyword).length + (if ([] : List Keyword).isEmpty then 0 else 1) < 30)) = true := by rfl)
    (hline : (apos.endLine == cpos.line) = true := by rfl) (hs : starEach [e] X.env = (false, eval e X.env) :: starEach [] X.env := by rfl) (hplain : (backTo cpos (starEach [] X.env)).any (·.1) = false := by rfl) :
    PEt X W (.Call (.Attribute (.Name n p) "extend" apos) [e] [] cpos) (xExt j y) :=
  bm_core j PySem.F.plainAttrs_list PySem.F.slot_list_extend PySem.F.type_list_extend mt_extend ha (g := fun ρ1 as K => match slotL ρ1 j, O.ts as with
    | some (c, os), [.lst ts] => os.length + ts.length ≤ sizeLine ∧ K (.sh .non) (putL ρ1 j c (os ++ ts.map .sh))
    | _, _ => False) (fun B Wd fr frv ρ σ os as va H K0 Q c hl hla hsl s g hQ => by
    rw [hsl] at g
    obtain ⟨q1, q2⟩ := slotL_some hsl
    have st := stack_reps (fr := fr ++ ρ) (frv := frv ++ σ) hla s
    split at g
    · rename_i cc oo ts h1 h2
      cases h1
      obtain ⟨S, e1, e2, rp, s2⟩ := st
      rw [h2] at rp
      obtain ⟨v, r0, rfl, ⟨b, vb, rfl, hb, rb⟩, rr⟩ := rp
      have rr' : r0 = [] := rr
      subst rr'
      obtain ⟨a, vs, ea, ha', hlen, up⟩ := Sim.listAt (as := []) (va := []) (by simpa using s2) hl rfl q1 q2
      refine ⟨a, ea, a, b, vs, vb, rfl, rfl, ha', e2 _ _ hb, by rw [← hlen, ← rb.len]; exact g.1, hQ _ _ _ _ g.2 ?_⟩
      have h9 := up (os ++ ts.map .sh) [] (vs ++ vb) [] rfl fun H' S' f g hS o1 o2 => ⟨f, g, [], by simpa using o1.app (Owns.sh (rb.mono hS)), o2, by simp⟩
      exact Sim.rebase e1 (Sim.push (by simpa [putL] using h9) fun _ => rfl)
    · exact g.elim) (fun ρ as K g => by
    unfold isSL
    cases q : slotL ρ j with
    | none => rw [q] at g; exact (show False from g).elim
    | some z => rfl) hN hv hd hcd hbase hfew hline hs hplain
theorem pe_pop (j : Nat) (hN : X.N[j]? = some n := by rfl) (hv : Vis X.env.scope n := by first | exact Or.inl rfl | exact Or.inr (Or.inl rfl) | exact Or.inr (Or.inr rfl)) (hd : (n == ("__debug__" : Str)) = false := by decide) (hcd : (n == ("__classdict__" : Str)) = false := by decide)
    (hbase : attributeBase (.Name n p) "pop" X.env (eval (.Name n p) X.env) = eval (.Name n p) X.env := by rfl) (hline : (apos.endLine == cpos.line) = true := by rfl) :
    PEt X W (.Call (.Attribute (.Name n p) "pop" apos) [] [] cpos) (xPop j) :=
  PE.imp (pe_bm0 PySem.F.plainAttrs_list PySem.F.slot_list_pop PySem.F.type_list_pop mt_pop (pe_var (i := j) hN hv hd hcd) hbase hline) fun σ H Q ⟨B, Wd, fr, frv, ρ, K0, Z0, hl, s, hx, hK, hZ⟩ => by
    unfold xPop at hx
    cases hsl : slotL ρ j with
    | none => rw [hsl] at hx; exact hx.elim
    | some z =>
      obtain ⟨c, os⟩ := z
      rw [hsl] at hx
      obtain ⟨q1, q2⟩ := slotL_some hsl
      obtain ⟨a, vs, ea, ha', hlen, up⟩ := Sim.listAt (as := []) (va := []) (by simpa using s) hl rfl q1 q2
      have hx' : (match os.getLast? with | some o => K0 o (putL ρ j c os.dropLast) | none => False) := hx
      cases ho : os.getLast? with
      | none => rw [ho] at hx'; exact hx'.elim
      | some o =>
        rw [ho] at hx'
        obtain ⟨os1, rfl⟩ : ∃ os1, os = os1 ++ [o] := List.getLast?_eq_some_iff.mp ho
        have hvl : vs.length - 1 < vs.length := by simp at hlen; omega
        refine ⟨.ref a, ea, .inl ⟨rfl, vs, SqL.of ha'⟩, a, vs, vs[vs.length - 1], rfl, rfl, ha', List.getElem?_eq_getElem hvl, hK _ _ _ _ hx' ?_⟩
        have h9 := up (os1 ++ [o]).dropLast [o] vs.dropLast [vs[vs.length - 1]] rfl fun H' S f g hS o1 o2 => by
          obtain ⟨v1, v2, f1, f2, rfl, rfl, oa, ob⟩ := o1.split
          obtain ⟨w, rfl, oc⟩ := Owns.of_one ob
          have e1 : (v1 ++ [w])[(v1 ++ [w]).length - 1] = w := by simp
          rw [e1, List.dropLast_concat, List.dropLast_concat]
          exact ⟨f1, f2, g, oa, Owns.one oc, List.Perm.refl _⟩
        simpa [putL] using h9
end
end TL
namespace TL
open PySem PySem.Spec PyProof.Rows L2
/-- exceptions whose context is None -/
abbrev Takes (X : Cx) (W : L2.WX) : Prop := L2N.Takes X W
abbrev ZX := Addr → List Str → List T → Prop
/-- a def that changes nothing: from the arguments to the answer -/
abbrev PF := List O → (O → Prop) → ZX → Prop
/-- a def that changes its first argument -/
abbrev IF := O → List O → (O → O → Prop) → ZX → Prop
def spP (K : PySem.W.Frag) (g : PF) : Sp := fun vs H Q E => ∃ B Wd os K0 Z0, Sim K B Wd (os.map some) (vs.map some) H ∧ g os K0 Z0 ∧ (∀ o v H', K0 o → Sim K B Wd [some o] [some v] H' → Q v H') ∧
  ∀ C fs ts d H', Z0 C fs ts → Sim K B Wd [some (.sh (.xd fs ts))] [some (.ref d)] H' → E (.ref C) (some d) H'
def spI (K : PySem.W.Frag) (g : IF) : Sp := fun vs H Q E => ∃ B Wd o0 v0 os us K0 Z0, vs = v0 :: us ∧ Sim K B Wd (some o0 :: os.map some) (some v0 :: us.map some) H ∧ g o0 os K0 Z0 ∧ (∀ o o' v H', K0 o o' → Sim K B Wd [some o, some o'] [some v, some v0] H' → Q v H') ∧
  ∀ C fs ts d H', Z0 C fs ts → Sim K B Wd [some (.sh (.xd fs ts))] [some (.ref d)] H' → E (.ref C) (some d) H'
/-- a global def keeps its promise -/
structure Fn1 (P : Program) (w : World) (K : PySem.W.Frag) (mg : Str → Option Value) (base : Heap) (k : Nat) (x : Str) (ps : List Str) (sp : Sp) : Prop where
  mgx : mg x = some (.ref (He.ga K x))
  kp : PySem.W.keepIn K (.ref (He.ga K x)) = true
  ok : ∃ fd, Binds K fd ps [] ∧ FnOk P w K mg base (L2N.CX P w) k (He.ga K x) fd ps sp
theorem Fn1.mono {P : Program} {w : World} {K : PySem.W.Frag} {mg : Str → Option Value} {base : Heap} {j k : Nat} {x : Str} {ps : List Str} {sp : Sp} (F : Fn1 P w K mg base j x ps sp) (h : j ≤ k) : Fn1 P w K mg base k x ps sp :=
  let ⟨fd, b, f⟩ := F.ok; ⟨F.mgx, F.kp, fd, b, f.mono h⟩
/-- a global def of the text -/
structure Df (K : PySem.W.Frag) (mg : Str → Option Value) (x : Str) (st : Stmt) (ps : List Str) : Prop where
  mgx : mg x = some (.ref (He.ga K x))
  fd : ∃ fd, FunD K x x (defArgs st) (defBody st) (defScope st) [] [] (He.ga K x) fd ∧ Binds K fd ps []
def xCall (g : PF) (y : XA) : XE := fun ρ K Z => y ρ (fun os ρ1 => g os (fun o => K o ρ1) fun C fs ts => Z C fs ts ρ1) Z
def xCallI (j : Nat) (g : IF) (y : XA) : XE := fun ρ K Z => (∃ c, ρ[j]? = some (some c)) ∧ y ρ (fun os ρ1 => match ρ1[j]? with
  | some (some c) => g c.un os (fun o c' => K o (ρ1.set j (some (c.re c')))) fun C fs ts => Z C fs ts (ρ1.set j none)
  | _ => False) Z
section
variable {X : Cx} {W : L2.WX} {e e1 e2 : Expr} {es : List Expr} {x : XE} {y : XA} {pos p apos cpos : Pos} {n nm : Str} {k : Nat} {ps : List Str}
theorem pe_call {g : PF} (F : Fn1 X.prog X.w X.K X.mg X.base k nm ps (spP X.K g)) (hr : Room k X.A) (tk : Takes X W) (hg : Gl X nm) (ha : PAt X W (e :: es) y) (hdb : (nm == ("__debug__" : Str)) = false := by decide)
    (he : starEach (e :: es) X.env = (false, eval e X.env) :: starEach es X.env := by rfl) (hpl : (backTo pos (starEach es X.env)).any (·.1) = false := by rfl) : PEt X W (.Call (.Name nm p) (e :: es) [] pos) (xCall g y) := by
  obtain ⟨fd, bd, f⟩ := F.ok
  refine PE.imp (pe_callS f hr hg F.mgx F.kp bd (fun σ => L2N.passAt tk σ) ha hdb he hpl) fun σ H Q ⟨B, Wd, fr, frv, ρ, K0, Z0, hl, s, hx, hK, hZ⟩ => ⟨B, Wd, fr, frv, ρ, _, Z0, hl, s, hx, fun os ρ1 vs H1 hle k1 s1 => ?_, hZ⟩
  obtain ⟨B', Wd', _, h2, back⟩ := Sim.frame (as := os.map some) (va := vs.map some) (by simp [hle]) s1
  exact ⟨B', Wd', os, _, _, h2, k1, fun o v H' ko so => hK _ _ _ _ ko (back [some o] [some v] H' so), fun C fs ts d H' z so => hZ _ _ _ _ _ _ z (back [_] [_] H' so)⟩
theorem pe_callI (j : Nat) {g : IF} (F : Fn1 X.prog X.w X.K X.mg X.base k nm ps (spI X.K g)) (hr : Room k X.A) (tk : Takes X W) (hg : Gl X nm) (ha : PAt X W es y)
    (hN : X.N[j]? = some n := by rfl) (hv : Vis X.env.scope n := by first | exact Or.inl rfl | exact Or.inr (Or.inl rfl) | exact Or.inr (Or.inr rfl)) (hd : (n == ("__debug__" : Str)) = false := by decide) (hcd : (n == ("__classdict__" : Str)) = false := by decide)
    (hdb : (nm == ("__debug__" : Str)) = false := by decide)
    (he : starEach (.Name n apos :: es) X.env = (false, eval (.Name n apos) X.env) :: starEach es X.env := by rfl) (hpl : (backTo pos (starEach es X.env)).any (·.1) = false := by rfl) : PEt X W (.Call (.Name nm p) (.Name n apos :: es) [] pos) (xCallI j g y) := by
  obtain ⟨fd, bd, f⟩ := F.ok
  refine PE.imp (pe_callS f hr hg F.mgx F.kp bd (fun σ => L2N.passAt tk σ) (L2.pa_cons (pe_var (i := j) hN hv hd hcd) ha he) hdb he hpl) fun σ H Q ⟨B, Wd, fr, frv, ρ, K0, Z0, hl, s, hx, hK, hZ⟩ => ?_
  obtain ⟨⟨c0, hc0⟩, hx⟩ := hx
  obtain ⟨S, fp, sm⟩ := id s
  obtain ⟨v0, hv0, _⟩ := sm.own (fr.length + j) c0 (by rw [get_app]; exact hc0)
  rw [hl, get_app] at hv0
  refine ⟨v0, hv0, B, Wd, fr, frv, ρ, _, Z0, hl, s, hx, fun os ρ1 vs H1 hle k1 s1 => ?_, hZ⟩
  cases hc : ρ1[j]? with
  | none => rw [hc] at k1; exact k1.elim
  | some r =>
    rw [hc] at k1
    cases r with
    | none => exact k1.elim
    | some c =>
      obtain ⟨v1, hv1, s2⟩ := s1.pull (n := os.length + (fr.length + j)) (o := c) (by
        rw [List.getElem?_append_right (by simp), List.length_map, Nat.add_sub_cancel_left, get_app]
        exact hc)
      have ev : v1 = v0 := by
        rw [List.getElem?_append_right (by simp; omega), List.length_map, hle, Nat.add_sub_cancel_left, hl, get_app, hv0] at hv1
        exact (Option.some.inj (Option.some.inj hv1)).symm
      subst ev
      have hs : (os.map some ++ (fr ++ ρ1)).set (os.length + (fr.length + j)) none = os.map some ++ (fr ++ ρ1.set j none) := by
        rw [List.set_append_right _ _ (by simp), List.length_map, Nat.add_sub_cancel_left, set_app]
      rw [hs] at s2
      obtain ⟨B2, Wd2, _, h2, back2⟩ := Sim.front (as := [c]) (va := [v1]) rfl s2
      obtain ⟨h3, re⟩ := h2.un
      have s3 := back2 [c.un] [v1] H1 h3
      have s3' : Sim X.K B Wd ((some c.un :: os.map some) ++ (fr ++ ρ1.set j none)) ((some v1 :: vs.map some) ++ (frv ++ σ)) H1 := by simpa using s3
      obtain ⟨B', Wd', _, h4, back⟩ := Sim.frame (as := some c.un :: os.map some) (va := some v1 :: vs.map some) (by simp [hle]) s3'
      refine ⟨B', Wd', c.un, v1, os, vs, _, _, rfl, h4, k1, fun o o' v H' ko so => hK _ _ _ _ ko ?_, fun C fs ts d H' z so => hZ _ _ _ _ _ _ z (by simpa using back [_] [_] H' so)⟩
      have s5 := back [some o, some o'] [some v, some v1] H' so
      -- the changed one back to its slot
      have s6 : Sim X.K B Wd (some (c.re o') :: some o :: (fr ++ ρ1.set j none)) (some v1 :: some v :: (frv ++ σ)) H' := by
        have s7 : Sim X.K B Wd (some o' :: some o :: (fr ++ ρ1.set j none)) (some v1 :: some v :: (frv ++ σ)) H' := Sim.rot (l1 := [some o]) (v1 := [some v]) rfl (by simpa using s5)
        cases c with
        | io vc oc =>
          obtain ⟨B3, Wd3, _, h7, back3⟩ := Sim.front (as := [o']) (va := [v1]) rfl s7
          have evc : v1 = vc := by
            obtain ⟨S9, f9, _, _, _, ⟨w9, r9, f1, f2, ew, ⟨evv, _⟩, _⟩, _⟩ := h2
            cases ew
            exact evv
          refine back3 [.io vc o'] [v1] H' ?_
          obtain ⟨S8, f8, g1, g2, g3, g4, g5⟩ := h7
          obtain ⟨w8, ew8, ow8⟩ := Owns.of_one g4
          cases ew8
          exact ⟨S8, f8, g1, g2, g3, Owns.one ⟨evc, ow8⟩, g5⟩
        | _ => exact s7
      have s8 := s6.put (fr.length + j + 1)
      have e1 : (some o :: (fr ++ ρ1.set j none)).set (fr.length + j + 1) (some (c.re o')) = some o :: (fr ++ ρ1.set j (some (c.re o'))) := by
        rw [List.set_cons_succ, set_app, List.set_set]
      have e2 : (some v :: (frv ++ σ)).set (fr.length + j + 1) (some v1) = some v :: (frv ++ σ) := by
        rw [List.set_cons_succ, hl, set_app, set_id hv0]
      rw [e1, e2] at s8
      exact s8
end
section
variable {P : Program} {w : World} {K : PySem.W.Frag} {mg : Str → Option Value} {base : Heap} {x : Str} {st : Stmt} {N ps : List Str} {k : Nat}
/-- the context of such a def's body -/
abbrev cxD (P : Program) (w : World) (K : PySem.W.Frag) (mg : Str → Option Value) (base : Heap) (N : List Str) (x : Str) (st : Stmt) (cdv : Value) (A : Around) (outer : List Env) (s : Shared) (H : Hp) (E : XK) : Cx :=
  cxOf (L2N.CX P w) P w K mg base N x (defScope st) (He.ga K x) cdv A outer s H E
abbrev wD (E : XK) : L2.WX := fun cls d _ H => E cls d H
theorem start_sim {B Wd : Hp} {os : List O} {vs : List V} {H : Hp} (h : Sim K B Wd (os.map some) (vs.map some) H) (m : Nat) : Sim K B Wd (os.map some ++ List.replicate m none) (vs.map some ++ List.replicate m none) H := by
  have hl : os.length = vs.length := by have := h.len; simpa using this
  refine h.via (fun i => i) (fun _ _ _ _ h => h) (by simp [hl]) fun i o e => ?_
  by_cases hi : i < os.length
  · rw [List.getElem?_append_left (by simpa using hi)] at e
    exact ⟨e, fun v q => by rw [List.getElem?_append_left (by simp; omega)]; exact q⟩
  · rw [List.getElem?_append_right (by simp; omega)] at e
    obtain ⟨h1, h2⟩ := List.getElem?_eq_some_iff.mp e
    rw [List.getElem_replicate] at h2
    cases h2
/-- THE RULE for a def that changes nothing that its caller has -/
theorem fn_P {g : PF} (F : Df K mg x st ps) (S : FnScope N ps (defScope st)) (ar : ∀ os K0 Z0, g os K0 Z0 → os.length = ps.length)
    (hbody : ∀ (cdv : Value) (A : Around) (outer : List Env) (s : Shared) (H : Hp) (E : XK), Room k (cxD P w K mg base N x st cdv A outer s H E).A → Takes (cxD P w K mg base N x st cdv A outer s H E) (wD E) →
      ∃ xs, PSst (cxD P w K mg base N x st cdv A outer s H E) (wD E) (defBody st) xs ∧ ∀ os K0 Z0, g os K0 Z0 → xs { nx := fun _ => K0 (.sh .non), rt := fun o _ => K0 o, ex := fun C fs ts _ => Z0 C fs ts } (os.map some ++ List.replicate (N.length - os.length) none)) :
    Fn1 P w K mg base (k + 1) x ps (spP K g) := by
  obtain ⟨fd, fD, bd⟩ := F.fd
  refine ⟨F.mgx, fD.kp, fd, bd, fD.ok S (fun vs H Q E h => ?_) fun cdv A outer s H vs Q E hr h => ?_⟩
  · obtain ⟨B, Wd, os, K0, Z0, h1, h2, _⟩ := h
    have := h1.len
    simp at this
    rw [← this]
    exact ar _ _ _ h2
  · obtain ⟨xs, t, q⟩ := hbody cdv A outer s H E hr (L2N.takes_of rfl rfl rfl rfl)
    obtain ⟨B, Wd, os, K0, Z0, h1, h2, h3, h4⟩ := h
    have hle : os.length = vs.length := by have := h1.len; simpa using this
    refine ⟨_, t, B, Wd, [], [], _, _, rfl, ?_, q os K0 Z0 h2, fun ρ' σ' H' k' s' => h3 _ _ _ k' ?_, fun _ _ _ z => z.elim, fun _ _ _ z => z.elim, fun o ρ' v σ' H' k' s' => h3 _ _ _ k' ?_, fun σ' C fs ts ρ' d H' z s' => h4 C fs ts d H' z ?_⟩
    · have h5 := start_sim h1 (N.length - os.length)
      rw [hle] at h5 ⊢
      exact h5
    · have h6 : Sim K B Wd [] [] H' := by
        refine Sim.via s' (fun i => i) (fun _ _ _ _ h => h) rfl fun i o e => by simp at e
      exact h6.push fun _ => rfl
    · refine Sim.via s' (fun i => i) (fun _ _ _ _ h => h) rfl fun i o e => ?_
      cases i with
      | zero => exact ⟨by simpa using e, fun v q => by simpa using q⟩
      | succ i => simp at e
    · refine Sim.via s' (fun i => i) (fun _ _ _ _ h => h) rfl fun i o e => ?_
      cases i with
      | zero => exact ⟨by simpa using e, fun v q => by simpa using q⟩
      | succ i => simp at e
/-- THE RULE for a def that changes its first argument, which stands in slot 0 all the time -/
theorem fn_I {g : IF} (F : Df K mg x st ps) (S : FnScope N ps (defScope st)) (ar : ∀ o os K0 Z0, g o os K0 Z0 → os.length + 1 = ps.length)
    (hbody : ∀ (cdv : Value) (A : Around) (outer : List Env) (s : Shared) (H : Hp) (E : XK), Room k (cxD P w K mg base N x st cdv A outer s H E).A → Takes (cxD P w K mg base N x st cdv A outer s H E) (wD E) →
      ∃ xs, PSst (cxD P w K mg base N x st cdv A outer s H E) (wD E) (defBody st) xs ∧ ∀ v0 o0 os K0 Z0, g o0 os K0 Z0 →
        xs { nx := fun ρ => ∃ o', ρ[0]? = some (some (.io v0 o')) ∧ K0 (.sh .non) o', rt := fun o ρ => ∃ o', ρ[0]? = some (some (.io v0 o')) ∧ K0 o o', ex := fun C fs ts _ => Z0 C fs ts } (some (.io v0 o0) :: os.map some ++ List.replicate (N.length - os.length - 1) none)) :
    Fn1 P w K mg base (k + 1) x ps (spI K g) := by
  obtain ⟨fd, fD, bd⟩ := F.fd
  refine ⟨F.mgx, fD.kp, fd, bd, fD.ok S (fun vs H Q E h => ?_) fun cdv A outer s H vs Q E hr h => ?_⟩
  · obtain ⟨B, Wd, o0, v0, os, us, K0, Z0, rfl, h1, h2, _⟩ := h
    have := h1.len
    simp at this
    rw [List.length_cons, ← this]
    exact ar _ _ _ _ h2
  · obtain ⟨xs, t, q⟩ := hbody cdv A outer s H E hr (L2N.takes_of rfl rfl rfl rfl)
    obtain ⟨B, Wd, o0, v0, os, us, K0, Z0, rfl, h1, h2, h3, h4⟩ := h
    have hle : os.length = us.length := by have := h1.len; simpa using this
    have fin : ∀ {o o' : O} {v : V} {ρ' : R} {σ' : L2.St} {H' : Hp}, Sim K B Wd (some o :: ρ') (some v :: σ') H' → ρ'[0]? = some (some (.io v0 o')) → Sim K B Wd [some o, some o'] [some v, some v0] H' := fun {o o' v ρ' σ' H'} s' e' => by
      obtain ⟨r, rfl⟩ : ∃ r, ρ' = some (.io v0 o') :: r := by
        cases ρ' with
        | nil => simp at e'
        | cons a r => simp at e'; exact ⟨r, by rw [e']⟩
      cases σ' with
      | nil => have := s'.len; simp at this
      | cons b σ' =>
        have s2 : Sim K B Wd ([some o, some (.io v0 o')] ++ r) ([some v, b] ++ σ') H' := s'
        have s3 : Sim K B Wd [some o, some (.io v0 o')] [some v, b] H' := by
          refine Sim.via s2 (fun i => i) (fun _ _ _ _ h => h) rfl fun i o e => ?_
          match i, e with
          | 0, e => exact ⟨by simpa using e, fun v q => by simpa using q⟩
          | 1, e => exact ⟨by simpa using e, fun v q => by simpa using q⟩
          | i + 2, e => simp at e
        obtain ⟨S1, fp1, m1⟩ := s3
        obtain ⟨v1, e1, ow⟩ := m1.own 1 _ rfl
        have eb : b = some v1 := by simpa using e1
        subst eb
        obtain ⟨ev, ow2⟩ := ow
        subst ev
        refine ⟨S1, fp1, m1.bs, m1.sh, m1.wd, rfl, fun i o2 e2 => ?_, m1.nd, m1.dj, m1.sn, m1.hn, m1.ws, m1.wf⟩
        match i, e2 with
        | 0, e2 => simpa using m1.own 0 o2 (by simpa using e2)
        | 1, e2 =>
          have : o' = o2 := by simpa using e2
          subst this
          exact ⟨v1, rfl, ow2⟩
        | i + 2, e2 => simp at e2
    refine ⟨_, t, B, Wd, [], [], _, _, rfl, ?_, q v0 o0 os K0 Z0 h2, fun ρ' σ' H' ⟨o', e', k'⟩ s' => h3 _ _ _ _ k' ?_, fun _ _ _ z => z.elim, fun _ _ _ z => z.elim, fun o ρ' v σ' H' ⟨o', e', k'⟩ s' => h3 _ _ _ _ k' (fin s' e'), fun σ' C fs ts ρ' d H' z s' => h4 C fs ts d H' z ?_⟩
    · have h1' : Sim K B Wd ((.io v0 o0 :: os).map some) ((v0 :: us).map some) H := by
        obtain ⟨S1, fp1, m1⟩ := h1
        refine ⟨S1, fp1, m1.bs, m1.sh, m1.wd, m1.len, fun i o2 e2 => ?_, m1.nd, m1.dj, m1.sn, m1.hn, m1.ws, m1.wf⟩
        cases i with
        | zero =>
          have : O.io v0 o0 = o2 := by simpa using e2
          subst this
          obtain ⟨v1, e1, ow⟩ := m1.own 0 o0 rfl
          have ev : v0 = v1 := by simpa using e1
          subst ev
          exact ⟨v0, rfl, rfl, ow⟩
        | succ i => exact m1.own (i + 1) o2 (by simpa using e2)
      have h5 := start_sim h1' (N.length - (os.length + 1))
      have e9 : N.length - os.length - 1 = N.length - (us.length + 1) := by omega
      rw [hle] at h5
      rw [e9]
      exact h5
    · exact fin (s'.push fun _ => rfl) e'
    · refine Sim.via s' (fun i => i) (fun _ _ _ _ h => h) rfl fun i o e => ?_
      cases i with
      | zero => exact ⟨by simpa using e, fun v q => by simpa using q⟩
      | succ i => simp at e
end
end TL
namespace TL
open PySem PySem.Spec PyProof.Rows L2
def wipeR (ρ : R) : List Nat → R
  | [] => ρ
  | v :: vs => (wipeR ρ vs).set v none
theorem wipeR_len (ρ : R) : ∀ vs, (wipeR ρ vs).length = ρ.length
  | [] => rfl
  | v :: vs => by unfold wipeR; rw [List.length_set, wipeR_len ρ vs]
theorem wipeR_some {ρ : R} {i : Nat} {o : O} : ∀ {vs : List Nat}, (wipeR ρ vs)[i]? = some (some o) → ρ[i]? = some (some o) ∧ i ∉ vs
  | [], h => ⟨h, by simp⟩
  | v :: vs, h => by
    unfold wipeR at h
    by_cases e : v = i
    · subst e
      rw [List.getElem?_set] at h
      simp at h
    · rw [List.getElem?_set_ne e] at h
      obtain ⟨a, b⟩ := wipeR_some h
      exact ⟨a, by simp [b, Ne.symm e]⟩
theorem wipe_get {σ : L2.St} {i : Nat} : ∀ {vs : List Nat}, i ∉ vs → (wipe σ vs)[i]? = σ[i]?
  | [], _ => rfl
  | v :: vs, h => by
    unfold wipe
    rw [List.getElem?_set_ne fun z => h (by simp [z]), wipe_get fun z => h (by simp [z])]
theorem wipe_at {σ : L2.St} {i : Nat} : ∀ {vs : List Nat}, i ∈ vs → i < σ.length → (wipe σ vs)[i]? = some none
  | [], h, _ => by simp at h
  | v :: vs, h, hl => by
    unfold wipe
    by_cases e : v = i
    · subst e
      rw [List.getElem?_set_self (by rw [wipe_length]; exact hl)]
    · rw [List.getElem?_set_ne e]
      exact wipe_at (by simpa [Ne.symm e] using h) hl
theorem wipe_eq {σ σ' : L2.St} {vs sl : List Nat} (h : But sl (wipe σ vs) σ') (hs : ∀ i ∈ sl, i ∈ vs) : wipe σ' vs = wipe σ vs := by
  have hl : σ'.length = σ.length := by have := h.1; rw [wipe_length] at this; exact this
  apply List.ext_getElem?
  intro i
  by_cases hi : i ∈ vs
  · by_cases hlt : i < σ.length
    · rw [wipe_at hi hlt, wipe_at hi (by omega)]
    · rw [List.getElem?_eq_none (by rw [wipe_length]; omega), List.getElem?_eq_none (by rw [wipe_length]; omega)]
  · rw [wipe_get hi, wipe_get hi, h.2 i fun z => hi (hs i z), wipe_get hi]
def noZ : ZC := fun _ _ _ _ => False
abbrev W0 : L2.WX := fun _ _ _ _ => False
/-- [elt for target in iter if test]: I by the turn, the items made so far and the slots -/
def xLc (it : XI) (g : XG) (tt : XT) (x : XE) (own : List Nat) : XE := fun ρ K Z => it ρ (fun ts ρ1 => ∃ I : Nat → List O → R → Prop, I 0 [] (wipeR ρ1 own) ∧
  (∀ i t acc ρ, ts[i]? = some t → I i acc ρ → g (.sh t) ρ fun ρ2 => tt ρ2 (fun b ρ3 => if b = true then x ρ3 (fun o ρ4 => acc.length < sizeLine ∧ I (i + 1) (acc ++ [o]) (wipeR ρ4 own)) noZ else I (i + 1) acc (wipeR ρ3 own)) noZ) ∧
  ∀ acc ρ, I ts.length acc ρ → K (.lst acc) ρ) Z
def xYes : XT := fun ρ K _ => K true ρ
section
variable {K : PySem.W.Frag} {B Wd H : Hp} {fr ρ : R} {frv σ : L2.St}
theorem Sim.wiped {own : List Nat} (hl : fr.length = frv.length) (h : Sim K B Wd (fr ++ ρ) (frv ++ σ) H) : Sim K B Wd (fr ++ wipeR ρ own) (frv ++ wipe σ own) H := by
  have hr := Sim.app_len hl h
  refine h.via (fun i => i) (fun _ _ _ _ h => h) (by simp [wipeR_len, wipe_length, hl, hr]) fun i o e => ?_
  by_cases hi : i < fr.length
  · rw [List.getElem?_append_left hi] at e
    refine ⟨by rw [List.getElem?_append_left hi]; exact e, fun v q => ?_⟩
    rw [List.getElem?_append_left (by omega)] at q ⊢
    exact q
  · rw [List.getElem?_append_right (by omega)] at e
    obtain ⟨e1, e2⟩ := wipeR_some e
    refine ⟨by rw [List.getElem?_append_right (by omega)]; exact e1, fun v q => ?_⟩
    rw [List.getElem?_append_right (by omega), ← hl] at q ⊢
    rw [wipe_get e2]
    exact q
theorem Sim.unwiped {own : List Nat} (hl : fr.length = frv.length) (h : Sim K B Wd (fr ++ ρ) (frv ++ wipe σ own) H) : Sim K B Wd (fr ++ ρ) (frv ++ σ) H := by
  have hr := Sim.app_len hl h
  rw [wipe_length] at hr
  obtain ⟨S, fp, s⟩ := h
  refine ⟨S, fp, s.bs, s.sh, s.wd, by simp [hl, hr], fun i o e => ?_, s.nd, s.dj, s.sn, s.hn, s.ws, s.wf⟩
  obtain ⟨v, h1, h2⟩ := s.own i o e
  refine ⟨v, ?_, h2⟩
  by_cases hi : i < fr.length
  · rw [List.getElem?_append_left (by omega)] at h1 ⊢
    exact h1
  · rw [List.getElem?_append_right (by omega)] at h1 ⊢
    exact (wipe_some h1).1
/-- the state behind a turn: the block's own names forgotten -/
theorem Sim.turned {own : List Nat} {σ0 : L2.St} (hl : fr.length = frv.length) (e : wipe σ own = wipe σ0 own) (h : Sim K B Wd (fr ++ ρ) (frv ++ σ) H) : Sim K B Wd (fr ++ wipeR ρ own) (frv ++ wipe σ0 own) H := by
  rw [← e]
  exact h.wiped hl
theorem Sim.appFront {acc : List O} {o : O} {v : V} {D : Addr} {os : R} {vs : L2.St} (h : Sim K B Wd (some o :: some (.lst acc) :: os) (some v :: some (.ref D) :: vs) H) :
    ∃ ws, H D = some (.lst ws) ∧ acc.length = ws.length ∧ Sim K B Wd (some (.lst (acc ++ [o])) :: os) (some (.ref D) :: vs) (upd H D (.lst (ws ++ [v]))) := by
  have h1 : Sim K B Wd (some (.lst acc) :: some o :: os) (some (.ref D) :: some v :: vs) H := Sim.rot (l1 := [some o]) (v1 := [some v]) rfl h
  obtain ⟨B', Wd', _, h2, back⟩ := Sim.front (as := [.lst acc, o]) (va := [.ref D, v]) rfl h1
  obtain ⟨ws, e1, e2, up⟩ := h2.setL
  refine ⟨ws, e1, e2, back [_] [_] _ (up (acc ++ [o]) [] (ws ++ [v]) [] fun H' S f g _ o1 o2 => ⟨f ++ g, [], [], o1.app o2, ⟨rfl, rfl⟩, by simp⟩)⟩
end
section
variable {X : Cx} {W : L2.WX} {e elt tg iter : Expr} {ifs : List Expr} {scope : Scope} {own : List (Str × Nat)} {pos p : Pos} {x : XE} {it : XI} {g : XG} {tt : XT} {sl : List Nat}
def PTst (X : Cx) (W : L2.WX) (ifs : List Expr) (t : XT) : Prop := PTs X ifs (lT X.K W t)
theorem pts_nil : PTst X W [] xYes := ⟨fun pins s σ H Q I ⟨B, Wd, fr, frv, ρ, K0, Z0, hl, sm, hx, hK, hZ⟩ => L2.pts_nil.run pins s σ H Q I (hK _ _ _ hx sm)⟩
theorem pts_one {c : Expr} {t : XT} (h : PTt X W c t) : PTst X W [c] t := L2.pts_one h
theorem lc_ok (ho : ∀ i ∈ sl, i ∈ own.map (·.2)) {σ : L2.St} {H : Hp} {Q : VK} (h : lE X.K W (xLc it g tt x (own.map (·.2))) σ H Q) : tLc (lI X.K W it) (lG X.K sl g) (lT X.K W0 tt) (lE X.K W0 x) (own.map (·.2)) σ H Q := by
  obtain ⟨B, Wd, fr, frv, ρ, K0, Z0, hl, s, hx, hK, hZ⟩ := h
  refine ⟨B, Wd, fr, frv, ρ, _, Z0, hl, s, hx, fun ts ρ1 S J H1 k1 bs s1 ik => ?_, hZ⟩
  obtain ⟨I, i0, turn, done⟩ := k1
  obtain ⟨G, Y, wk, gk, yk⟩ := ik
  intro D hD
  have noX : ∀ {B Wd fr frv σ}, ExAt X.K B Wd fr frv W0 noZ σ := fun _ _ _ _ _ _ z => z.elim
  refine lc_it wk (fun i H => ∃ acc ρ, Sim X.K S Wd (some (.lst acc) :: (fr ++ ρ)) (some (.ref D) :: (frv ++ wipe σ (own.map (·.2)))) H ∧ I i acc ρ) ⟨[], _, ?_, i0⟩ (fun i H _ ⟨acc, ρ, s, _⟩ => ?_) (fun i y H2 H3 hi ⟨acc, ρ, s, ii⟩ hy => ?_) fun H ⟨acc, ρ, s, ii⟩ => ?_
  · have s2 := s1.wiped (own := own.map (·.2)) hl
    obtain ⟨B', Wd', _, h3, back⟩ := Sim.front (as := []) (va := []) rfl (by simpa using s2)
    exact back [.lst []] [.ref D] _ (h3.newL hD)
  · obtain ⟨S', e1, e2, _⟩ := s.self
    exact gk H (e1.trans e2)
  · obtain ⟨t, et⟩ : ∃ t, ts[i]? = some t := ⟨ts[i], List.getElem?_eq_getElem hi⟩
    have s3 := yk i t H2 y H3 S _ _ et hy (Same.refl _) s
    refine ⟨S, Wd, some (.lst acc) :: fr, some (.ref D) :: frv, ρ, .sh t, _, by simp [hl], s3, turn i t acc ρ et ii, fun ρ2 σ2 H4 k2 b2 s4 => ?_⟩
    have we : wipe σ2 (own.map (·.2)) = wipe σ (own.map (·.2)) := wipe_eq b2 ho
    refine ⟨we, S, Wd, some (.lst acc) :: fr, some (.ref D) :: frv, ρ2, _, noZ, by simp [hl], s4, k2, fun b ρ3 H5 k3 s5 => ?_, noX⟩
    by_cases hb : b = true
    · rw [if_pos hb] at k3 ⊢
      refine ⟨S, Wd, some (.lst acc) :: fr, some (.ref D) :: frv, ρ3, _, noZ, by simp [hl], s5, k3, fun o ρ4 v H6 k4 s6 => ?_, noX⟩
      obtain ⟨ws, e1, e2, s7⟩ := s6.appFront
      refine ⟨ws, e1, by rw [← e2]; exact k4.1, acc ++ [o], wipeR ρ4 (own.map (·.2)), ?_, k4.2⟩
      exact Sim.turned (fr := some (.lst (acc ++ [o])) :: fr) (frv := some (.ref D) :: frv) (σ := σ2) (σ0 := σ) (by simp [hl]) we s7
    · rw [if_neg hb] at k3 ⊢
      exact ⟨acc, _, Sim.turned (fr := some (.lst acc) :: fr) (frv := some (.ref D) :: frv) (σ := σ2) (σ0 := σ) (by simp [hl]) we s5, k3⟩
  · exact hK _ _ _ _ (done acc ρ ii) (Sim.rebase bs (Sim.unwiped (fr := some (.lst acc) :: fr) (frv := some (.ref D) :: frv) (by simp [hl]) s))
theorem pe_lc (hc : X.calm = true) (hN : X.N.Nodup) (hi : PIt X W tg iter it) (ok : BlkOk X.N X.env.scope scope own) (ho : ∀ i ∈ sl, i ∈ own.map (·.2))
    (hg : ∀ (s : Shared) (H : Hp) (C : Addr) (cl : List (Str × Addr)) (fp : List Addr), PGt (X.blk s H scope (compEnvC scope cl C X.env) fp) sl tg g) (ht : ∀ (s : Shared) (H : Hp) (C : Addr) (cl : List (Str × Addr)) (fp : List Addr), PTst (X.blk s H scope (compEnvC scope cl C X.env) fp) W0 ifs tt)
    (he : ∀ (s : Shared) (H : Hp) (C : Addr) (cl : List (Str × Addr)) (fp : List Addr), PEt (X.blk s H scope (compEnvC scope cl C X.env) fp) W0 elt x) (hs : ∀ x, foldedSetIterable iter X.env x = pure x := by intro _; rfl) :
    PEt X W (.ListComp elt [⟨tg, iter, ifs, 0⟩] scope pos) (xLc it g tt x (own.map (·.2))) :=
  PE.imp (L2.pe_lc (g := lG X.K sl g) (tt := lT X.K W0 tt) (te := lE X.K W0 x) hc hN hi ok hg ht he hs) fun σ H Q h => lc_ok ho h
theorem ps_setLc (i : Nat) {n : Str} {py spos : Pos} (hc : X.calm = true) (hN : X.N.Nodup) (hi : PIt X W tg iter it) (ok : BlkOk X.N X.env.scope scope own) (ho : ∀ i ∈ sl, i ∈ own.map (·.2))
    (hg : ∀ (s : Shared) (H : Hp) (C : Addr) (cl : List (Str × Addr)) (fp : List Addr), PGt (X.blk s H scope (compEnvC scope cl C X.env) fp) sl tg g) (ht : ∀ (s : Shared) (H : Hp) (C : Addr) (cl : List (Str × Addr)) (fp : List Addr), PTst (X.blk s H scope (compEnvC scope cl C X.env) fp) W0 ifs tt)
    (he : ∀ (s : Shared) (H : Hp) (C : Addr) (cl : List (Str × Addr)) (fp : List Addr), PEt (X.blk s H scope (compEnvC scope cl C X.env) fp) W0 elt x)
    (hy : X.N[i]? = some n := by rfl) (hyl : X.env.scope.names.lookup n = some .local := by rfl) (hsw : swapsWith (.ListComp elt [⟨tg, iter, ifs, 0⟩] scope pos) (some (.Name n py)) spos.line X.env = pure true := by exact sw_true rfl rfl rfl (by decide +kernel))
    (hs : ∀ x, foldedSetIterable iter X.env x = pure x := by intro _; rfl) :
    PSt X W (.Assign [.Name n py] (.ListComp elt [⟨tg, iter, ifs, 0⟩] scope pos) spos) (xAsg (xLc it g tt x (own.map (·.2))) (gN i)) :=
  PS.imp (L2.ps_setLc (g := lG X.K sl g) (tt := lT X.K W0 tt) (te := lE X.K W0 x) hc hN hy hyl hsw hi ok hg ht he hs) fun D σ H ⟨B, Wd, fr, frv, ρ, D0, hl, s, hx, q1, q2, q3, q4, q5⟩ =>
    lc_ok (W := W) (Q := fun v H1 => L2.gName i v σ H1 D.nx) ho ⟨B, Wd, fr, frv, ρ, _, _, hl, s, hx, fun o ρ1 v H1 k1 e1 => q1 _ _ _ k1 (e1.setAt hl i), q5 σ⟩
end
end TL
namespace TL
open PySem PySem.Spec PyProof.Rows L2
/-- x[e], an item that is shared; the list stays owned -/
def xIxN (j : Nat) (x : XE) : XE := fun ρ K Z => (∃ c, ρ[j]? = some (some c)) ∧ x ρ (fun o ρ1 => match slotL ρ1 j, o.t with
  | some (c, os), .int i => (match atI os i with
    | some (.sh t) => K (.sh t) ρ1
    | _ => False)
  | _, _ => False) Z
/-- x[e] = o -/
def gIxN (j : Nat) (x : XE) : XG := fun o ρ K => (∃ c, ρ[j]? = some (some c)) ∧ x ρ (fun oi ρ1 => match slotL ρ1 j, oi.t with
  | some (c, os), .int i => (match ixN os.length i with
    | some k => K (putL ρ1 j c (os.set k o))
    | none => False)
  | _, _ => False) noZ
section
variable {K : PySem.W.Frag} {B Wd S H : Hp} {os : List O} {vs : List V} {fp : List Addr}
theorem Owns.at {i : Nat} {t : T} : ∀ {os : List O} {vs : List V} {fp : List Addr} {i : Nat}, Owns K H S os vs fp → os[i]? = some (.sh t) → ∃ v, vs[i]? = some v ∧ Rep K S t v
  | [], _, _, _, _, e => by simp at e
  | o :: os, _, _, 0, h, e => by
    obtain ⟨v, r, f1, f2, rfl, h2, h3, _⟩ := h
    simp at e
    subst e
    exact ⟨v, rfl, h2.2⟩
  | o :: os, _, _, i + 1, h, e => by
    obtain ⟨v, r, f1, f2, rfl, h2, h3, _⟩ := h
    obtain ⟨w, e1, e2⟩ := Owns.at (i := 0) h3 (by simpa using e)
    exact ⟨w, by simpa using e1, e2⟩
theorem atI_len {α β : Type} {xs : List α} {ys : List β} (hl : xs.length = ys.length) {i : Int} {x : α} (h : atI xs i = some x) : ∃ k : Nat, xs[k]? = some x ∧ ∀ y, ys[k]? = some y → atI ys i = some y := by
  unfold L2.atI at h ⊢
  rw [← hl]
  cases q : ixN xs.length i with
  | none => rw [q] at h; cases h
  | some k => rw [q] at h; exact ⟨k, h, fun y e => e⟩
theorem slot_own {fr ρ : R} {frv σ : L2.St} {j : Nat} {c : O} (hl : fr.length = frv.length) (h : Sim K B Wd (fr ++ ρ) (frv ++ σ) H) (e : ρ[j]? = some (some c)) :
    ∃ S fp v, Sm K B Wd (fr ++ ρ) (frv ++ σ) H S fp ∧ σ[j]? = some (some v) ∧ Own K H S c v (fp (fr.length + j)) := by
  obtain ⟨S, fp, s⟩ := h
  obtain ⟨v, e1, e2⟩ := s.own (fr.length + j) c (by rw [get_app]; exact e)
  rw [hl, get_app] at e1
  exact ⟨S, fp, v, s, e1, e2⟩
theorem Own.unL {c : O} {v : V} (h : Own K H S c v fp) (e : c.un = .lst os) : ∃ a vs fq, v = .ref a ∧ H a = some (.lst vs) ∧ Owns K H S os vs fq := by
  cases c with
  | io v0 o =>
    have e' : o = .lst os := e
    subst e'
    obtain ⟨_, a, vs, fq, h1, h2, h3, _⟩ := h
    exact ⟨a, vs, fq, h1, h2, h3⟩
  | lst o =>
    have e' : O.lst o = .lst os := e
    cases e'
    obtain ⟨a, vs, fq, h1, h2, h3, _⟩ := h
    exact ⟨a, vs, fq, h1, h2, h3⟩
  | _ => cases e
end
section
variable {X : Cx} {W : L2.WX} {a b c e e1 e2 : Expr} {es : List Expr} {xa xb x : XE} {y : XA} {pos p apos cpos : Pos} {n : Str} {g : XG}
theorem pe_ixN (j : Nat) (hb : PEt X W b xb) (hs : PlainIx b)
    (hN : X.N[j]? = some n := by rfl) (hv : Vis X.env.scope n := by first | exact Or.inl rfl | exact Or.inr (Or.inl rfl) | exact Or.inr (Or.inr rfl)) (hd : (n == ("__debug__" : Str)) = false := by decide) (hcd : (n == ("__classdict__" : Str)) = false := by decide) :
    PEt X W (.Subscript (.Name n p) b pos) (xIxN j xb) :=
  PE.imp (L2.pe_ix ix_list (pe_var (i := j) hN hv hd hcd) hb hs) fun σ H Q ⟨B, Wd, fr, frv, ρ, K0, Z0, hl, s, hx, hK, hZ⟩ => by
    obtain ⟨⟨c0, hc0⟩, hx⟩ := hx
    obtain ⟨_, _, v0, _, hv0, _⟩ := slot_own hl s hc0
    refine ⟨v0, hv0, B, Wd, fr, frv, ρ, _, Z0, hl, s, hx, fun o ρ1 vi H1 k1 s1 => ?_, hZ⟩
    split at k1
    · rename_i c os i hsl hi
      obtain ⟨q1, q2⟩ := slotL_some hsl
      obtain ⟨S, fp, sm⟩ := id s1
      obtain ⟨v1, hv1, ow⟩ := sm.own (fr.length + j + 1) c (by
        rw [List.getElem?_cons_succ, get_app]
        exact q1)
      rw [List.getElem?_cons_succ, hl, get_app, hv0] at hv1
      cases hv1
      obtain ⟨a, vs, fq, rfl, ha, ows⟩ := ow.unL q2
      obtain ⟨vi', e1, ri⟩ := sm.own 0 o rfl
      cases e1
      have k1 : (match atI os i with | some (.sh t) => K0 (.sh t) ρ1 | _ => False) := k1
      cases hat : atI os i with
      | none => rw [hat] at k1; exact k1.elim
      | some ot =>
        rw [hat] at k1
        cases ot <;> first
          | exact k1.elim
          | skip
        rename_i t
        obtain ⟨k, e2, e3⟩ := atI_len (Owns.len ows).1 hat
        obtain ⟨v, e4, rp⟩ := Owns.at (i := 0) (t := t) ows e2
        have hvi : vi = .int i := by
          obtain ⟨S2, _, _, rr⟩ := s1.rep
          rw [hi] at rr
          exact rr
        refine ⟨a, vs, i, v, rfl, hvi, SqL.of ha, e3 v e4, hK _ _ _ _ k1 ?_⟩
        exact (Sim.drop2 (a := some (.sh t)) (va := some v) ⟨S, _, sm.push rp⟩)
    · exact k1.elim
theorem pg_ixN (j : Nat) (hb : PEt X W0 b xb)
    (hN : X.N[j]? = some n := by rfl) (hv : Vis X.env.scope n := by first | exact Or.inl rfl | exact Or.inr (Or.inl rfl) | exact Or.inr (Or.inr rfl)) (hd : (n == ("__debug__" : Str)) = false := by decide) (hcd : (n == ("__classdict__" : Str)) = false := by decide)
    (ha : ∀ v, assign (.Subscript (.Name n p) b pos) X.env v = (do
      let ov ← holding [v] (eval (.Name n p) X.env)
      let iv ← holding [v, ov] (eval b X.env)
      standAt pos
      holding [v, ov, iv] (setItem ov iv v)
      release [v, ov, iv] []) := by intro _; rfl) :
    PGt X [] (.Subscript (.Name n p) b pos) (gIxN j xb) :=
  PG.imp (pg_sub (pe_var (i := j) hN hv hd hcd) hb set_list ha) fun v σ H Q ⟨B, Wd, fr, frv, ρ, o, K0, hl, s, hg, hQ⟩ => by
    obtain ⟨⟨c0, hc0⟩, hg⟩ := hg
    obtain ⟨_, _, v0, _, hv0, _⟩ := slot_own (fr := some o :: fr) (frv := some v :: frv) (by simp [hl]) s hc0
    refine ⟨v0, hv0, B, Wd, some o :: fr, some v :: frv, ρ, _, noZ, by simp [hl], s, hg, fun oi ρ1 vi H1 k1 s1 => ?_, fun _ _ _ _ _ _ z => z.elim⟩
    split at k1
    · rename_i c os i hsl hi
      obtain ⟨q1, q2⟩ := slotL_some hsl
      have hvi : vi = .int i := by
        obtain ⟨S2, _, _, rr⟩ := s1.rep
        rw [hi] at rr
        exact rr
      have k1 : (match ixN os.length i with | some k => K0 (putL ρ1 j c (os.set k o)) | none => False) := k1
      cases hk : ixN os.length i with
      | none => rw [hk] at k1; exact k1.elim
      | some k =>
        rw [hk] at k1
        have s2 : Sim X.K B Wd ([o].map some ++ (fr ++ ρ1)) ([v].map some ++ (frv ++ σ)) H1 := by simpa using s1.drop
        obtain ⟨a, vs, ea, ha', hlen, up⟩ := Sim.listAt s2 hl rfl q1 q2
        rw [hv0] at ea
        cases ea
        refine ⟨a, vs, i, k, rfl, hvi, ha', by rw [← hlen]; exact hk, hQ _ _ _ k1 ⟨rfl, fun _ _ => rfl⟩ ?_⟩
        have hkl : k < os.length := (ixN_seqL hk).2
        have h9 := up (os.set k o) [] (vs.set k v) [] rfl fun H' S f g hS o1 o2 => by
          have hsp := split_at (List.getElem?_eq_getElem hkl)
          obtain ⟨w, r, f5, f6, ew, oa, ob, rfl⟩ := o2
          cases ew
          obtain ⟨_, rfl⟩ := ob
          rw [hsp] at o1
          obtain ⟨v1, v2, f1, f2, rfl, rfl, oc, od⟩ := o1.split
          obtain ⟨w, r, f3, f4, rfl, oe, og, rfl⟩ := od
          have hv1 : v1.length = k := by rw [← (Owns.len oc).1, List.length_take]; omega
          have e1 : os.set k o = os.take k ++ o :: os.drop (k + 1) := by
            rw [List.set_eq_take_append_cons_drop, if_pos hkl]
          have e2 : (v1 ++ w :: r).set k v = v1 ++ v :: r := by
            rw [List.set_append_right _ _ (by omega), hv1]
            simp
          rw [e1, e2]
          refine ⟨f1 ++ (f5 ++ f4), [], f3, oc.app ⟨v, r, f5, f4, rfl, oa, og, rfl⟩, ⟨rfl, rfl⟩, ?_⟩
          simp only [List.append_nil, List.append_assoc]
          refine List.Perm.append_left _ ?_
          have p1 : (f3 ++ (f4 ++ f5)).Perm ((f4 ++ f5) ++ f3) := List.perm_append_comm
          refine p1.trans ?_
          rw [← List.append_assoc]
          exact List.Perm.append_right _ List.perm_append_comm
        simpa [putL] using h9
    · exact k1.elim
/-- at the module's name nm a dict with text keys and these trees -/
structure Tab (K : PySem.W.Frag) (w : World) (mg : Str → Option Value) (nm : Str) (d : Addr) (kvs : List (Str × T)) : Prop where
  mgx : mg nm = some (.ref d)
  kd : ∃ es n, KDict K w d es n
  at_ : ∀ z t, kvs.lookup z = some t → ∃ u v, PySem.W.nsIn K d z = some (some u) ∧ RelV v u ∧ ∀ S, Rep K S t v
def xTab (kvs : List (Str × T)) (x : XE) : XE := fun ρ K Z => x ρ (fun o ρ1 => match o.t with
  | .str z => (match kvs.lookup z with
    | some t => K (.sh t) ρ1
    | none => False)
  | _ => False) Z
theorem ix_kd {d : Addr} {es : Array DictEntry} {m : Nat} (D : KDict X.K X.w d es m) : IxR X (fun x y H Q => ∃ (z : Str) (u0 : Value) (v0 : V), x = .ref d ∧ y = .str z ∧ PySem.W.nsIn X.K d z = some (some u0) ∧ RelV v0 u0 ∧ Q v0 H) := by
  intro value slice pins s σ H x y v u Q I rx ry h hs
  have h2 := op_item_kd D pins s σ H x y v u Q I rx ry h
  obtain ⟨z, u0, v0, rfl, rfl, _⟩ := h
  obtain rfl : v = Value.ref d := rx
  exact tail_any (kd_type D I) PySem.F.slot_dict_getitem.lookup h2 hs
theorem pe_tab {kvs : List (Str × T)} (D : ∃ d, Tab X.K X.w X.mg n d kvs) (hg : Gl X n) (hb : PEt X W b xb) (hs : PlainIx b) (hdb : (n == ("__debug__" : Str)) = false := by decide) : PEt X W (.Subscript (.Name n p) b pos) (xTab kvs xb) := by
  obtain ⟨d, D⟩ := D
  obtain ⟨es, m, kd⟩ := D.kd
  refine PE.imp (L2.pe_ix (ix_kd kd) (L2.pe_glob (v := .ref d) hg D.mgx rfl hdb) hb hs) fun σ H Q ⟨B, Wd, fr, frv, ρ, K0, Z0, hl, s, hx, hK, hZ⟩ => ⟨B, Wd, fr, frv, ρ, _, Z0, hl, s, hx, fun o ρ1 vi H1 k1 s1 => ?_, hZ⟩
  obtain ⟨S2, _, _, rr⟩ := s1.rep
  cases hi : o.t <;> rw [hi] at k1 rr <;> first
    | exact (show False from k1).elim
    | skip
  rename_i z
  have k1 : (match kvs.lookup z with | some t => K0 (.sh t) ρ1 | none => False) := k1
  cases hz : kvs.lookup z with
  | none => rw [hz] at k1; exact k1.elim
  | some t =>
    rw [hz] at k1
    obtain ⟨u, v, e1, e2, e3⟩ := D.at_ z t hz
    exact ⟨z, u, v, rfl, rr, e1, e2, hK _ _ _ _ k1 (s1.drop.push e3)⟩
end
end TL
namespace TL
open PySem PySem.Spec PyProof.Rows L2
section
variable {K : PySem.W.Frag} {B Wd H S : Hp} {a : Addr} {xs vs : List V} {ts : List T}
end
def xEnumA (y : XA) : XI := fun ρ K Z => y ρ (fun os ρ1 => match O.ts os with
  | [.lst ts] => K (enumL 0 ts) ρ1
  | [.kls ts] => K (enumL 0 ts) ρ1
  | [.tup ts] => K (enumL 0 ts) ρ1
  | [.ktp ts] => K (enumL 0 ts) ρ1
  | _ => False) Z
end TL
namespace TL
open PySem PySem.Spec PyProof.Rows L2 HT
section
variable {prog : Program} {w : World} {A : Around} {E : Value → Shared → Prop} {s : Shared}
end
section
variable {X : Cx} {W : L2.WX} {e : Expr} {te : TE} {x : XE} {k : Nat} {p1 p2 p3 pos : Pos}
def revAT : T → (O → Prop) → Prop
  | .lst ts, Q => Q (.lst (ts.reverse.map .sh))
  | .kls ts, Q => Q (.lst (ts.reverse.map .sh))
  | .tup ts, Q => Q (.sh (.tup ts.reverse))
  | .ktp ts, Q => Q (.sh (.tup ts.reverse))
  | _, _ => False
def xRevA (x : XE) : XE := fun ρ K Z => x ρ (fun o ρ1 => revAT o.t fun r => K r ρ1) Z
end
end TL
namespace TL
open PySem PySem.Spec PyProof.Rows L2
theorem takes0 {X : Cx} : Takes X W0 := fun u s' ⟨a, B, sI, pins, σ, H, cls, d, e, I, nb, up, sky, na, os, ag, w⟩ => w.elim
theorem bt_len : bootBuiltins "len" = some (.builtin "len") := by decide +kernel
theorem bt_abs : bootBuiltins "abs" = some (.builtin "abs") := by decide +kernel
theorem bt_max : bootBuiltins "max" = some (.builtin "max") := by decide +kernel
theorem bt_any : bootBuiltins "any" = some (.builtin "any") := by decide +kernel
theorem bt_all : bootBuiltins "all" = some (.builtin "all") := by decide +kernel
theorem bt_int : bootBuiltins "int" = some (.type "int") := by decide +kernel
theorem bt_list : bootBuiltins "list" = some (.type "list") := by decide +kernel
theorem bt_tuple : bootBuiltins "tuple" = some (.type "tuple") := by decide +kernel
theorem bt_str : bootBuiltins "str" = some (.type "str") := by decide +kernel
theorem bt_bool : bootBuiltins "bool" = some (.type "bool") := by decide +kernel
def xChain (g g' : T → T → (Bool → Prop) → Prop) (xa xb xc : XE) : XE := fun ρ K Z => xa ρ (fun oa ρ1 => xb ρ1 (fun ob ρ2 => g oa.t ob.t fun k => if k = true then xc ρ2 (fun oc ρ3 => g' ob.t oc.t fun k' => K (.sh (.bl k')) ρ3) Z else K (.sh (.bl false)) ρ2) Z) Z
def xChainT (g g' : T → T → (Bool → Prop) → Prop) (xa xb xc : XE) : XT := fun ρ K Z => xa ρ (fun oa ρ1 => xb ρ1 (fun ob ρ2 => g oa.t ob.t fun k => if k = true then xc ρ2 (fun oc ρ3 => g' ob.t oc.t fun k' => K k' ρ3) Z else K false ρ2) Z) Z
section
variable {X : Cx} {W : L2.WX} {a b c e : Expr} {xa xb xc x : XE} {pos p : Pos} {g g' : T → T → (Bool → Prop) → Prop} {r r' : R2} {op op' : CmpOp}
/-- two that stand shared -/
theorem Sim.two {K : PySem.W.Frag} {B Wd H : Hp} {os : R} {us : L2.St} {oa ob : O} {va vb : V} (s : Sim K B Wd (some ob :: some oa :: os) (some vb :: some va :: us) H) :
    ∃ B' Wd', Smo K B' Wd' [.sh ob.t, .sh oa.t] [vb, va] H ∧ ∀ os' vs' H', Smo K B' Wd' os' vs' H' → Sim K B Wd (os'.map some ++ os) (vs'.map some ++ us) H' := by
  obtain ⟨B', Wd', _, h2, back⟩ := Sim.front (as := [ob, oa]) (va := [vb, va]) rfl s
  exact ⟨B', Wd', h2.frz, back⟩
theorem chain_core (ht : Op2 X r (gB g)) (ht' : Op2 X r' (gB g')) {σ : L2.St} {H : Hp} {Q : VK} (h : lE X.K W (xChain g g' xa xb xc) σ H Q) : tChain r r' (lE X.K W xa) (lE X.K W xb) (lE X.K W xc) σ H Q := by
  obtain ⟨B, Wd, fr, frv, ρ, K0, Z0, hl, s, hx, hK, hZ⟩ := h
  refine ⟨B, Wd, fr, frv, ρ, _, Z0, hl, s, hx, fun oa ρ1 va H1 k1 s1 => ⟨B, Wd, some oa :: fr, some va :: frv, ρ1, _, Z0, by simp [hl], s1, k1, fun ob ρ2 vb H2 k2 s2 => ?_, hZ.push⟩, hZ⟩
  obtain ⟨vb', e1, s3⟩ := s2.read (n := 0) (o := ob) rfl
  have evb : vb' = vb := by simpa using e1.symm
  subst evb
  have s4 : Sim X.K B Wd ([some (.sh ob.t), some oa] ++ some (.sh ob.t) :: (fr ++ ρ2)) ([some vb', some va] ++ some vb' :: (frv ++ σ)) H2 := Sim.unrot (l1 := [some (.sh ob.t), some oa]) (v1 := [some vb', some va]) rfl (by
    exact s3)
  obtain ⟨B', Wd', h2, back⟩ := Sim.two (oa := oa) (ob := .sh ob.t) s4
  refine ht B' Wd' H2 oa.t ob.t va vb' (fun o => match o with
    | .sh (.bl k) => if k = true then xc ρ2 (fun oc ρ3 => g' ob.t oc.t fun k' => K0 (.sh (.bl k')) ρ3) Z0 else K0 (.sh (.bl false)) ρ2
    | _ => False) _ h2 k2 fun o v H3 ko so => ?_
  have s5 := back [o] [v] H3 so
  split at ko
  · rename_i k
    obtain ⟨S, _, _, rp⟩ := s5.rep
    refine ⟨k, rp, ?_⟩
    have s6 : Sim X.K B Wd (some (.sh ob.t) :: (fr ++ ρ2)) (some vb' :: (frv ++ σ)) H3 := s5.drop
    by_cases hk : k = true
    · rw [if_pos hk] at ko ⊢
      refine ⟨B, Wd, some (.sh ob.t) :: fr, some vb' :: frv, ρ2, _, Z0, by simp [hl], s6, ko, fun oc ρ3 vc H4 k4 s7 => ?_, hZ.push⟩
      obtain ⟨B2, Wd2, h5, back2⟩ := Sim.two (oa := .sh ob.t) (ob := oc) s7
      exact ht' B2 Wd2 H4 ob.t oc.t vb' vc (fun o => K0 o ρ3) _ h5 k4 fun o v H5 ko so => hK _ _ _ _ ko (back2 [o] [v] H5 so)
    · rw [if_neg hk] at ko ⊢
      exact hK _ _ _ _ ko (s6.drop.push fun _ => rfl)
  · exact ko.elim
theorem pt_chain (ho : OpR X (compareOp op) r) (ht : Op2 X r (gB g)) (ho' : OpR X (compareOp op') r') (ht' : Op2 X r' (gB g')) (ha : PEt X W a xa) (hb : PEt X W b xb) (hc : PEt X W c xc)
    (hm : lastMarks [op, op'] [b, c] = false := by with_unfolding_all rfl) : PTt X W (.Compare a [op, op'] [b, c] pos) (xChainT g g' xa xb xc) :=
  PT.imp (L2.pt_chain ho ho' ha hb hc hm) fun σ H Q ⟨B, Wd, fr, frv, ρ, K0, Z0, hl, s, hx, hK, hZ⟩ =>
    chain_core (W := W) ht ht' (Q := fun z H3 => ∃ k, z = .bl k ∧ Q k H3) ⟨B, Wd, fr, frv, ρ, (fun o ρ' => match o with
      | .sh (.bl k) => K0 k ρ'
      | _ => False), Z0, hl, s, hx, fun o ρ' v H' q s' => by
        dsimp only at q
        split at q
        · rename_i k
          obtain ⟨S, _, _, rp⟩ := s'.rep
          exact ⟨k, rp, hK _ _ _ q s'.drop⟩
        · exact q.elim, hZ⟩
/-- range(i, j, -1) -/
def xRng3 (y : XA) : XI := fun ρ K Z => y ρ (fun os ρ1 => match O.ts os with
  | [.int i, .int j, .int (-1)] => (-(2 ^ 62) ≤ i ∧ i < 2 ^ 62 ∧ -(2 ^ 62) ≤ j ∧ j < 2 ^ 62) ∧ K (rangeC i (-1) (i - j).toNat) ρ1
  | _ => False) Z
theorem pi_range3 {y : XA} {tg a b c : Expr} (hg : Gl X "range") (hm : X.mg "range" = none) (ha : PAt X W [a, b, c] y) (hs : starEach [a, b, c] X.env = (false, eval a X.env) :: starEach [b, c] X.env := by rfl) (hpl : (backTo pos (starEach [b, c] X.env)).any (·.1) = false := by rfl) : PIt X W tg (.Call (.Name "range" p) [a, b, c] [] pos) (xRng3 y) :=
  PI.imp (L2.pi_range3 hg hm ha hs hpl) fun σ H Q ⟨B, Wd, fr, frv, ρ, K0, Z0, hl, s, hx, hK, hZ⟩ => ⟨B, Wd, fr, frv, ρ, _, Z0, hl, s, hx, fun os ρ1 vs H1 hle k1 s1 => by
    obtain ⟨S, e1, e2, rp, s2⟩ := stack_reps hle s1
    split at k1
    · rename_i i j q
      rw [q] at rp
      obtain ⟨v, r, rfl, rv, w, r2, rfl, rw2, z, r3, rfl, rz, rr⟩ := rp
      have rr' : r3 = [] := rr
      subst rr'
      have f1 : v = .int i := rv
      have f2 : w = .int j := rw2
      have f3 : z = .int (-1) := rz
      subst f1 f2 f3
      exact ⟨i, j, -1, _, rfl, RgC.neg k1.1.1 k1.1.2.1 k1.1.2.2.1 k1.1.2.2.2, hK _ _ _ _ _ k1.2 e1 s2 iter_rangeC⟩
    · exact k1.elim, hZ⟩
theorem pe_globE {y : Str} {v : V} {t : T} (hg : Gl X y) (hm : ∃ u, X.mg y = some u ∧ RelV v u) (rt : ∀ S, Rep X.K S t v) (hd : (y == ("__debug__" : Str)) = false := by decide) : PEt X W (.Name y pos) (xC t) :=
  let ⟨_, h1, h2⟩ := hm; pe_glob hg h1 h2 rt hd
end
end TL
namespace TL
open PySem PySem.Spec PyProof.Rows L2
section
variable {X : Cx} {CX : CXT} {x : Str} {e : Expr} {es : List Expr} {ta : TA} {p pos : Pos} {C fI : Addr} {k : Nat} {fd : FuncData} {ps : List Str} {sp : Sp}
/-- C(e, ..) where nothing is handled: the new exception's context is None -/
theorem pmkN (T : OexC X.K C) (iC : PySem.W.findIn X.K (.ref C) "__init__" = some (some (.ref fI))) (tI : PySem.W.typeIn X.K (.ref fI) = some (.type "function"))
    (F1 : FnOk X.prog X.w X.K X.mg X.base CX k fI fd ps sp) (hr : Room (k + 1) X.A) (hb : Binds X.K fd ps []) (hx : Passes CX X (fun _ _ _ => False)) (hg : Gl X x) (hm : X.mg x = some (.ref C)) (ha : PA X (e :: es) ta)
    (hdb : (x == ("__debug__" : Str)) = false := by decide) (he : starEach (e :: es) X.env = (false, eval e X.env) :: starEach es X.env := by rfl) (hpl : (backTo pos (starEach es X.env)).any (·.1) = false := by rfl) :
    L2N.PMk X (.Call (.Name x p) (e :: es) [] pos) (tMkO C sp [] ta) := by
  intro pins s σ H Q I h
  obtain ⟨_, _, _, _, bm, _, _, _, _, _, _, _, _, _, _, hC, hbm⟩ := T.cls
  refine wpAny_Call_Name_kw (ld_glob I hg hm (PySem.W.callWith_K (h₀ := X.base) I.ok.mod.kin T.kC (thn (ha.run pos pins s σ H _ I h) fun us s1 ⟨vs, H1, I1, r1, hz, q1⟩ => ⟨I1.kIn, ?_⟩) he hpl) hdb)
  show wpAny _ _ (call (.ref C) us) _ _ _
  obtain ⟨hp, g, dr, tk, os⟩ := s1
  let n := hp.objs.size
  let h2 := (hp.push (PySem.W.kdv_tup us)).push (PySem.HandSPX.excO C n)
  have le : n ≤ n + 1 := Nat.le_succ _
  have free : H1 (n + 1) = none := I1.hok.fresh le
  have hq := q1 (n + 1) free
  rw [List.append_nil] at hq
  have grow : ∀ b o, hp.get? b = some o → h2.get? b = some o := fun b o z => Heap.get?_push_of_some _ (Heap.get?_push_of_some _ z)
  have atE : h2.get? (n + 1) = some (PySem.HandSPX.excO C n) := by
    show ((hp.push (PySem.W.kdv_tup us)).push (PySem.HandSPX.excO C hp.objs.size)).get? (hp.objs.size + 1) = _
    heap_get
  have I2 : Inv X pins σ (upd H1 (n + 1) (exo (n + 1) C none)) ⟨h2, g, dr, tk, os⟩ := I1.laid (t' := tk) (a := n + 1) (o := exo (n + 1) C none) (h' := h2) grow le (exo_ok atE)
  have r2 : Vals (V.ref (n + 1) :: vs) (Value.ref (n + 1) :: us) := .cons rfl r1
  have len : (Value.ref (n + 1) :: us).length = ps.length := r2.length.symm.trans (F1.len _ _ _ _ hq)
  have few : us.length ≤ sizeLine := by
    rw [← Paired.length r1, sizeLine_eq]
    omega
  have b2 := hb _ (Value.ref (n + 1) :: us) I2.kIn (by simpa using len)
  rw [List.append_nil] at b2
  refine wpAny_call (PySem.HandSPX.call_own F.excBase_ValueError (fun Y => PySem.HandSPX.refsVE_contains Y bm hbm) (I1.kIn _ _ hC) (PySem.W.looks_findIn I1.kIn iC) (fun self => PySem.W.bind_fn I1.kIn self tI) few
    (codeAny_mono (F1.run _ X.stack _ _ ⟨Value.ref (n + 1) :: us, []⟩ (Value.ref (n + 1) :: us) _ _ (fun _ _ _ => False) (hr.make C us []) (I2.env0.make C us []) b2 r2 hq) fun r s' hq' => ?_))
  rcases r with er | fl
  · exact hx pins σ _ _ er s' I2 hq'
  · cases fl <;> first
      | exact False.elim hq'
      | skip
    obtain ⟨v, H2, os2, bare2, un2, hok2, rv, ev, d, fs, ea, ed, hd1, q2⟩ := hq'
    subst ev
    obtain ⟨t0, G, J, kG, ge, hoe, na⟩ := mk_end0 (d2 := s'.drawn) (t2 := s'.toks) I1 le grow un2 hok2 os2 bare2 ea ed hd1
    exact ⟨rv, ⟨n + 1, _, _, ⟨G, s'.gens, s'.drawn, s'.toks, s'.os⟩, _, .ref C, some d, rfl, J, kG, ge, hoe, ⟨rfl, rfl, fun vs hv => by cases hv; rfl⟩, rfl, rfl, na, rfl, bare2, raises_own T.exC T.tyC, q2⟩⟩
end
def spIni (K : PySem.W.Frag) (C : Addr) (f : Str) : Sp := fun vs H Q _ => ∃ a y, vs = [.ref a, y] ∧ H a = some (exo a C none) ∧ OexC K C ∧ PySem.W.findIn K (.ref C) f = some none ∧
  ∀ dx, H dx = none → dx ≠ a → Q .non (upd (upd H dx (exd dx [(f, y)])) a (exo a C (some dx)))
theorem ini_ok {P : Program} {w : World} {K : PySem.W.Frag} {mg : Str → Option Value} {base : Heap} {x q f y : Str} {st : Stmt} {C fI : Addr} {fd : FuncData} {p1 p2 p3 p4 : Pos} (F : FunD K x q (defArgs st) (defBody st) (defScope st) [] [] fI fd)
    (S : FnScope ["self", y] ["self", y] (defScope st)) (hb : defBody st = [.Assign [.Attribute (.Name "self" p1) f p2] (.Name y p3) p4])
    (hv : (defScope st).names.lookup ("self" : Str) = some .local) (hv2 : (defScope st).names.lookup y = some .local) (hd : (y == ("__debug__" : Str)) = false) (hcd : (y == ("__classdict__" : Str)) = false) :
    FnOk P w K mg base (L2N.CX P w) 1 fI fd ["self", y] (spIni K C f) := by
  refine F.ok S (fun vs H Q E h => ?_) fun cdv A outer s H vs Q E hr h => ⟨tOst K f (tVar 0) (tVar 1), ?_, ?_⟩
  · obtain ⟨a, y, rfl, _⟩ := h
    rfl
  · rw [hb]
    exact PSs.nox (L2.pss_one (ps_ost (pe_var (i := 0) rfl (.inl hv) (by decide) (by decide)) (pe_var (i := 1) rfl (.inl hv2) hd hcd) (by rfl)))
  · obtain ⟨a, v, rfl, h1, h2, h3, h4⟩ := h
    exact ⟨v, rfl, .ref a, rfl, a, C, rfl, h2, h3, .inl ⟨h1, h4⟩⟩
end TL
namespace TL
open PySem PySem.Spec PyProof.Rows L2
/-- what the written part says of an own exception class with one field -/
structure Xk (P : Program) (w : World) (K : PySem.W.Frag) (mg : Str → Option Value) (base : Heap) (x f : Str) : Prop where
  mgx : mg x = some (.ref (He.ga K x))
  T : OexC K (He.ga K x)
  no : PySem.W.findIn K (.ref (He.ga K x)) f = some none
  ini : ∃ fI fd ps, PySem.W.findIn K (.ref (He.ga K x)) "__init__" = some (some (.ref fI)) ∧ PySem.W.typeIn K (.ref fI) = some (.type "function") ∧ Binds K fd ps [] ∧ FnOk P w K mg base (L2N.CX P w) 1 fI fd ps (spIni K (He.ga K x) f)
def xRaise (C : Addr) (f : Str) (y : XA) : XS := fun D ρ => y ρ (fun os ρ1 => match O.ts os with
  | [t] => D.ex C [f] [t] ρ1
  | _ => False) D.ex
section
variable {K : PySem.W.Frag} {B Wd H : Hp} {os : R} {us : L2.St} {o : O} {v : V}
theorem Sim.newX {p : Addr} {f : Str} (h : Sim K B Wd (some o :: os) (some v :: us) H) (hp : H p = none) : Sim K B Wd (some (.sh (.xd [f] [o.t])) :: os) (some (.ref p) :: us) (upd H p (.xd [(f, v)])) := by
  obtain ⟨B', Wd', _, h2, back⟩ := Sim.front (as := [o]) (va := [v]) rfl h
  have h3 : Smo K B' Wd' ([o.t].map .sh) [v] H := h2.frz
  exact back [_] [_] _ (Smo.newS (ts := [o.t]) (t := .xd [f] [o.t]) h3 hp fun S r e => ⟨p, [v], rfl, e, rfl, r⟩)
end
section
variable {X : Cx} {W : L2.WX} {e : Expr} {es : List Expr} {x : XE} {y : XA} {nm f n : Str} {p pos pos' : Pos}
theorem ps_raise1 (Y : Xk X.prog X.w X.K X.mg X.base nm f) (tk : Takes X W) (hr : Room 2 X.A) (hg : Gl X nm) (ha : PAt X W [e] y) (hc : X.calm = true := by rfl)
    (hdb : (nm == ("__debug__" : Str)) = false := by decide) (he : starEach [e] X.env = (false, eval e X.env) :: starEach [] X.env := by rfl) (hpl : (backTo pos (starEach [] X.env)).any (·.1) = false := by rfl) :
    PSt X W (.Raise (some (.Call (.Name nm p) [e] [] pos)) none pos') (xRaise (He.ga X.K nm) f y) := by
  obtain ⟨fI, fd, ps, h1, h2, h3, h4⟩ := Y.ini
  refine PS.imp (L2N.ps_raise hc tk (pmkN Y.T h1 h2 h4 hr h3 (L2N.passes_call tk fun _ _ _ _ z => z.elim) hg Y.mgx ha hdb he hpl)) fun D σ H ⟨B, Wd, fr, frv, ρ, D0, hl, s, hx, q1, q2, q3, q4, q5⟩ =>
    ⟨B, Wd, fr, frv, ρ, _, _, hl, s, hx, fun os ρ1 vs H1 hle k1 s1 => ?_, q5 σ⟩
  obtain ⟨o, v, rfl, rfl⟩ : ∃ o v, os = [o] ∧ vs = [v] := by
    match os, vs, hle with
    | [o], [v], _ => exact ⟨o, v, rfl, rfl⟩
    | [], _, _ => exact k1.elim
    | _ :: _ :: _, _, _ => exact k1.elim
  refine ⟨by show 1 ≤ 1000; decide, fun a ha => ⟨a, v, rfl, upd_same, Y.T, Y.no, fun dx hd hne => ⟨rfl, dx, [(f, v)], upd_same, ?_, ?_, ?_⟩⟩⟩
  · rw [upd_ne hne, upd_same]
  · rw [upd_ne hne] at hd
    exact hd
  · rw [upd_ne hne] at hd
    have e : upd (del (upd (upd (upd H1 a (exo a (He.ga X.K nm) none)) dx (exd dx [(f, v)])) a (exo a (He.ga X.K nm) (some dx))) a) dx (.xd [(f, v)]) = upd H1 dx (.xd [(f, v)]) := by
      funext b
      by_cases hb : b = dx
      · rw [hb, upd_same, upd_same]
      · rw [upd_ne hb, upd_ne hb]
        by_cases hba : b = a
        · rw [hba, del_same, ha]
        · rw [del_ne hba, upd_ne hba, upd_ne hb, upd_ne hba]
    rw [e]
    have k1 : D0.ex (He.ga X.K nm) [f] [o.t] ρ1 := k1
    exact q5 σ _ _ _ _ _ _ k1 (Sim.newX (os := fr ++ ρ1) (us := frv ++ σ) s1 hd)
def suiteD (D : ED) (i : Nat) : ED := { nx := fun ρ => D.nx (ρ.set i none), rt := D.rt, bk := fun ρ => D.bk (ρ.set i none), ct := fun ρ => D.ct (ρ.set i none) }
def xTry (Cs : Addr → Prop) (tst : Addr → Option Bool) (i : Nat) (xb : XS) (xs : Addr → Addr → Addr → XS) : XS := fun D ρ => xb { D with ex := fun C fs ts ρ1 => Cs C ∧ ∃ b, tst C = some b ∧
  (b = true → ∀ a d, xs a d C (suiteD D i) (ρ1.set i (some (.sh (.exn a d C fs ts))))) ∧ (b = false → D.ex C fs ts ρ1) } ρ
theorem Sim.unset {K : PySem.W.Frag} {B Wd H : Hp} {fr ρ : R} {frv σ : L2.St} (hl : fr.length = frv.length) (h : Sim K B Wd (fr ++ ρ) (frv ++ σ) H) (i : Nat) : Sim K B Wd (fr ++ ρ.set i none) (frv ++ σ.set i none) H := by
  have h1 : Sim K B Wd (none :: (fr ++ ρ)) (none :: (frv ++ σ)) H := by
    have hn := h.len
    refine h.via (fun j => if j = 0 then (fr ++ ρ).length else j - 1) (fun a b ha hb z => ?_) (by simpa using hn) fun j o e => ?_
    · simp only [List.length_cons] at ha hb
      split at z <;> split at z <;> omega
    · cases j with
      | zero => simp at e
      | succ j => exact ⟨by simpa using e, fun v => by simp⟩
  have h2 := h1.put (fr.length + i)
  rw [set_app, hl, set_app] at h2
  exact h2
variable {b₀ : Stmt} {suite body : List Stmt} {np : Pos} {xb : XS} {xs : Addr → Addr → Addr → XS} {c : Value}
theorem try_end {Cs : Addr → Prop} {i : Nat} {D : Ends} {σ : L2.St} {H : Hp} (h : lS X.K W (xTry Cs (fun C => PySem.W.exmOne X.K (.ref C) c) i xb xs) D σ H) :
    lS X.K (wAs X.K c i (fun a cls d D σ H => ∃ C dd, cls = .ref C ∧ d = some dd ∧ Cs C ∧ lS X.K W0 (xs a dd C) D σ H) W D) xb D σ H := by
  obtain ⟨B, Wd, fr, frv, ρ, D0, hl, s, hx, q1, q2, q3, q4, q5⟩ := h
  refine ⟨B, Wd, fr, frv, ρ, _, hl, s, hx, q1, q2, q3, q4, fun σ' C fs ts ρ' d H' ⟨hC, b, hb1, hy, hno⟩ s' => ⟨b, hb1, fun eb a ha => ⟨C, d, rfl, rfl, hC, B, Wd, fr, frv, _, _, hl, ?_, hy eb a d, ?_, ?_, ?_, q4, ?_⟩, fun eb => q5 σ' C fs ts ρ' d H' (hno eb) s'⟩⟩
  · obtain ⟨B', Wd', _, h2, back⟩ := Sim.front (as := [.sh (.xd fs ts)]) (va := [.ref d]) rfl s'
    obtain ⟨S, e1, e2, rx, bk⟩ := Smo.get1 h2
    obtain ⟨d', vs, ed, hS, hlen, rs⟩ := rx
    cases ed
    have h3 := back [.sh (.exn a d C fs ts)] [.ref a] H' (bk [.exn a d C fs ts] [.ref a] (reps1 ⟨rfl, vs, hS, hlen, rs⟩))
    exact Sim.setAt (fr := fr) (frv := frv) hl h3 i
  · exact fun ρ2 σ2 H2 k s2 => q1 _ _ _ k (s2.unset hl i)
  · exact fun ρ2 σ2 H2 k s2 => q2 _ _ _ k (s2.unset hl i)
  · exact fun ρ2 σ2 H2 k s2 => q3 _ _ _ k (s2.unset hl i)
  · exact fun _ _ _ _ _ _ _ z => z.elim
/-- what isinstance needs of the class -/
structure Xq (K : PySem.W.Frag) (D : Addr) : Prop where
  cl : (PySem.W.clsIn K D).isSome = true
  hg : PySem.W.findIn K (.ref D) "__getattribute__" = some (some (.builtin "BaseException.__getattribute__"))
  hk : PySem.W.findIn K (.ref D) "__getattr__" = some none
  hs : PySem.W.subIn K (.ref D) (.type "BaseException") = some true
  hd : PySem.W.hasDictIn K D = true
  ha : PySem.W.findIn K (.ref D) "__class__" = some (some (.builtin "object.__class__"))
  hn : PySem.W.specialIn K (.builtin "object.__class__") "__get__" = some (some (.builtin "getset_descriptor.__get__"))
  ht : PySem.W.takesIn K (.builtin "object.__class__") = some true
  hm : PySem.W.mroIn K D (.type "object") = some true
/-- the context holds the exception a of the class C, its dict at d -/
def HoldsX (X : Cx) (a d C : Addr) : Prop := ∃ oe, (a, oe) ∈ X.pn ∧ L2N.Zn (.ref C) (some d) oe ∧ ∃ vs, oe.data = .fields vs
def rIsX (C a d : Addr) (K : PySem.W.Frag) : List V → Hp → VK → Prop := fun xs H Q => ∃ (c : V) (cv : Value) (b : Bool) (fs : List (Str × V)), xs = [.ref a, c] ∧ (∀ u, RelV c u → u = cv) ∧ H d = some (.xd fs) ∧ PySem.W.kitOne K (.ref C) cv = some b ∧ Q (.bl b) H
theorem call_isX {a d C : Addr} (hx : HoldsX X a d C) (q : Xq X.K C) : CallR X (.builtin "isinstance") (rIsX C a d X.K) := by
  intro pins s σ H xs us Q I r h
  obtain ⟨c, cv, b, fs, rfl, hcv, hd, e, hq⟩ := h
  obtain ⟨oe, hin, hz, vs, hv⟩ := hx
  obtain ⟨u, u2, rfl, ru, ru2⟩ : ∃ u u2, us = [u, u2] ∧ RelV (.ref a) u ∧ RelV c u2 := by
    cases r with
    | cons p q =>
      cases q with
      | cons p' q' =>
        cases q'
        exact ⟨_, _, rfl, p, p'⟩
  obtain rfl : u = Value.ref a := ru
  obtain rfl := hcv _ ru2
  have hget := (I.pin (a, oe) (List.mem_append.mpr (.inl hin))).1
  have hxd : ObjOk X.prog X.w H s.heap d (.xd fs) := I.hok d _ hd
  obtain ⟨mA, hns, hrr⟩ := hxd
  obtain ⟨od, ho, _⟩ := lookIn_ns hns
  have J : PySem.W.InstAt s.heap a oe C (some od) := ⟨hget, hz.1, by unfold PySem.W.notCls; rw [hv] <;> rfl, by rw [hz.2.1]; exact ho⟩
  exact PySem.W.kia_one (PySem.W.kitx_exc q.cl q.hg q.hk q.hs q.ha q.hn q.ht q.hm) I.kIn J e (fun z => nomatch z) fun tk => ⟨.bl b, H, I.kept (t' := tk) fun _ _ z => z, rfl, hq⟩
def xIsX (a d C : Addr) (tst : Option Bool) (x : XE) : XE := fun ρ K Z => x ρ (fun o ρ1 => match o.t with
  | .exn a' d' C' _ _ => a' = a ∧ d' = d ∧ C' = C ∧ (match tst with
    | some b => K (.sh (.bl b)) ρ1
    | none => False)
  | _ => False) Z
theorem pe_isX {a d C : Addr} {n2 : Str} {cv : Value} {c : V} {p0 p1 : Pos} (hx : HoldsX X a d C) (q : Xq X.K C) (hg : Gl X "isinstance") (hm : X.mg "isinstance" = none) (hn : PE X (.Name n2 p1) (tC c)) (hcv : ∀ u, RelV c u → u = cv) (ha : PEt X W e x)
    (he : starEach [e, .Name n2 p1] X.env = (false, eval e X.env) :: starEach [.Name n2 p1] X.env := by rfl) (he2 : starEach [.Name n2 p1] X.env = (false, eval (.Name n2 p1) X.env) :: starEach [] X.env := by rfl) (hpl : (backTo pos (starEach [.Name n2 p1] X.env)).any (·.1) = false := by rfl) :
    PEt X W (.Call (.Name "isinstance" p0) [e, .Name n2 p1] [] pos) (xIsX a d C (PySem.W.kitOne X.K (.ref C) cv) x) :=
  PE.imp (L2.pe_callB (call_isX hx q) hg hm (by decide +kernel) (L2.pa_cons ha (L2.pa_cons hn L2.pa_nil he2) he) (by decide) (by decide) he hpl) fun σ H Q ⟨B, Wd, fr, frv, ρ, K0, Z0, hl, s, hx, hK, hZ⟩ =>
    ⟨B, Wd, fr, frv, ρ, _, Z0, hl, s, hx, fun o ρ1 v H1 k1 s1 => by
      obtain ⟨S, h1, h2, rp⟩ := s1.rep
      split at k1
      · rename_i a' d' C' fs ts eo
        obtain ⟨rfl, rfl, rfl, k1⟩ := k1
        rw [eo] at rp
        obtain ⟨rfl, vs, hS, _, _⟩ := rp
        split at k1
        · rename_i b eb
          exact ⟨c, cv, b, _, rfl, hcv, h2 _ _ hS, eb, hK _ _ _ _ k1 (s1.drop.push fun _ => rfl)⟩
        · exact k1.elim
      · exact k1.elim, hZ⟩
/-- e.f -/
def xFld (a d C : Addr) (f : Str) (x : XE) : XE := fun ρ K Z => x ρ (fun o ρ1 => match o.t with
  | .exn a' d' C' fs ts => a' = a ∧ d' = d ∧ C' = C ∧ (match lookT fs ts f with
    | some t => K (.sh t) ρ1
    | none => False)
  | _ => False) Z
end
end TL
set_option maxHeartbeats 1000000
namespace TL
open PySem PySem.Spec PyProof.Rows L2
/-- a block's context that keeps what is pinned -/
abbrev blkP (X : Cx) (s : Shared) (H : Hp) (scope : Scope) (cenv : Env) (fp : List Addr) : Cx := { X.blk s H scope cenv fp with pn := X.pn }
theorem Inv.keepPn {X : Cx} {s s' : Shared} {H0 H : Hp} {scope : Scope} {cenv : Env} {fp : List Addr} {σ : L2.St} (J : Inv (X.blk s H0 scope cenv fp) [] σ H s')
    (hp : ∀ p ∈ X.pn, s'.heap.get? p.1 = some p.2 ∧ H p.1 = none ∧ p.1 ≠ cenv.locals ∧ p.1 ∉ frs X.stack ∧ ∀ v, p.2.data ≠ .cell v) : Inv (blkP X s H0 scope cenv fp) [] σ H s' :=
  have k := J.ok
  ⟨⟨k.mod, k.kind, k.glob, k.blt, k.above, k.inj, k.has, k.cab, k.hd, k.frames, k.stk, k.exf, k.bs, k.bsz, k.noex, k.exfs, k.funs, k.frf⟩, J.os, J.bare, J.base, J.loc, J.cell, J.free, J.freeC,
    fun p h => hp p (by rw [List.append_nil] at h; exact h), J.hok, J.len⟩
def HotP (X : Cx) : Prop := ∃ p ∈ X.pn, X.A.handled = some (.ref p.1) ∧ ∃ vs : Array Value, p.2.data = .fields vs ∧ vs[2]? = some .none
section
variable {X : Cx} {n : Nat} {elt tg a : Expr} {ifs : List Expr} {scope : Scope} {own : List (Str × Nat)} {pos rp np : Pos} {ta : TA} {g : TG} {tt : TT} {te : TE}
theorem lcHot {pins : List (Addr × Obj)} {s : Shared} {σ : L2.St} {H : Hp} {Q : VK} {pos' : Pos} {use : Option (Value → Sem Unit)} {Qf : Value → Shared → Prop} (I : Inv X pins σ H s) (hot : HotP X) (hN : X.N.Nodup) (hg0 : Gl X "range") (hm : X.mg "range" = none) (ha : PA X [a] ta) (ok : BlkOk X.N X.env.scope scope own)
    (hg : ∀ (s : Shared) (H : Hp) (C : Addr) (cl : List (Str × Addr)) (fp : List Addr), PG (blkP X s H scope (compEnvC scope cl C X.env) fp) tg g) (ht : ∀ (s : Shared) (H : Hp) (C : Addr) (cl : List (Str × Addr)) (fp : List Addr), PTs (blkP X s H scope (compEnvC scope cl C X.env) fp) ifs tt)
    (he : ∀ (s : Shared) (H : Hp) (C : Addr) (cl : List (Str × Addr)) (fp : List Addr), PE (blkP X s H scope (compEnvC scope cl C X.env) fp) elt te)
    (hs : ∀ x, foldedSetIterable (.Call (.Name "range" np) [a] [] rp) X.env x = pure x) (hse : starEach [a] X.env = [(false, eval a X.env)]) (h : tLc (iRng1 ta) g tt te (own.map (·.2)) σ H Q)
    (fin : ∀ D C s' m H', Inv X pins σ H' s' → Q (.ref D) H' → s'.heap.Ns C m → FpOk X pins H' C → compPost (model X.prog X.w) X.A X.xe use Qf (.ref D) C (.ok .next) s') :
    wpAny (model X.prog X.w) X.A (comprehension (.ListComp elt [⟨tg, .Call (.Name "range" np) [a] [] rp, ifs, 0⟩] scope pos) scope X.env pos' (newList []) false (eval (.Call (.Name "range" np) [a] [] rp) X.env) use) Qf X.xe s := by
  obtain ⟨p0, hp0, hand, w0, hw0, hw2⟩ := hot
  have hfree : ∀ y ∈ scope.names, y.2 = .free → ∃ c, X.env.cells.lookup y.1 = some c := fun y hy e => I.ok.has _ ((ok.free y hy e).imp id id)
  have hc : L2H.HotC X := ⟨p0, ⟨hand, w0, hw0, hw2⟩, hp0⟩
  refine wpAny_comprehension_free (use := use) rfl hs (closure_ok hfree) ok.kind (fun y hy e => by rw [ok.uniq y hy, e]) (thn ((L2H.pi_range1H (tg := tg) hg0 hm ha hse).run pins s σ H _ I h) fun xv s1 hx => thn hx fun itv s2 h2 => ?_)
  obtain ⟨it, fp, tn, J, H2, rfl, I2, T, st2, f2, q⟩ := h2
  refine wpAny_newObj_type (newEnv_comp ?_) (by show 0 ≤ sizeLine; decide)
  let D := s2.heap.objs.size
  let s3 : Shared := { s2 with heap := s2.heap.push { cls := .type "list", data := .seq ([] : List Value).toArray } }
  have hDn : H2 D = none := I2.hok.fresh (Nat.le_refl _)
  obtain ⟨M, ⟨m0, w0'⟩, turn⟩ := q D hDn
  have I3 : Inv X pins σ (upd H2 D (.lst [])) s3 := I2.laid (t' := s2.toks) (fun b o e => Heap.get?_push_of_some _ e) (Nat.le_refl _) ⟨Nat.zero_le _, [], 0, .nil, Heap.get?_push_size _ rfl⟩
  have hsz : s3.heap.objs.size = s2.heap.objs.size + 1 := Heap.size_push ..
  have f3 : ∀ b ∈ fp, FpOk X pins (upd H2 D (.lst [])) b ∧ b < s3.heap.objs.size := fun b hb => by
    obtain ⟨o, e, _⟩ := T.obj _ _ st2 b hb
    have hlt := Heap.lt_size e
    exact ⟨⟨by rw [upd_ne (Nat.ne_of_lt hlt)]; exact (f2 b hb).1, (f2 b hb).2⟩, by rw [hsz]; exact Nat.lt_succ_of_lt hlt⟩
  have st3 : tn 0 s3.heap := T.keep _ _ _ st2 fun b _ o e => Heap.get?_push_of_some _ e
  let ce : Env := compEnvC scope (cellsFrom (s3.heap.objs.size + 1) scope.names (cloFrom X.env.cells scope.names [])) s3.heap.objs.size X.env
  let s4 : Shared := { s3 with heap := pushCells (s3.heap.push { cls := .type "dict", data := .dict #[] }) scope.names }
  have up4 : ∀ b o, s3.heap.get? b = some o → s4.heap.get? b = some o := fun b o e => pushCells_keeps _ _ _ _ (Heap.get?_push_of_some _ e)
  let Y : Cx := blkP X s3 (upd H2 D (.lst [])) scope ce fp
  have I4 : Inv Y [] (wipe σ (own.map (·.2))) (upd H2 D (.lst [])) s4 := Inv.keepPn (block_start I3 ok hN f3) fun p hp => by
    obtain ⟨e1, e2, e3, e4, e5⟩ := I3.pin p (List.mem_append_left _ hp)
    exact ⟨up4 _ _ e1, e2, Nat.ne_of_lt (Heap.lt_size e1), fun z => (List.mem_cons.mp (I3.stkSub p.1 z)).elim e3 e4, e5⟩
  have hcY : L2H.HotC Y := hc
  have pg := hg s3 (upd H2 D (.lst [])) s3.heap.objs.size (cellsFrom (s3.heap.objs.size + 1) scope.names (cloFrom X.env.cells scope.names [])) fp
  have pt := ht s3 (upd H2 D (.lst [])) s3.heap.objs.size (cellsFrom (s3.heap.objs.size + 1) scope.names (cloFrom X.env.cells scope.names [])) fp
  have pe := he s3 (upd H2 D (.lst [])) s3.heap.objs.size (cellsFrom (s3.heap.objs.size + 1) scope.names (cloFrom X.env.cells scope.names [])) fp
  show codeAny _ _ (.compStart (.ListComp elt [⟨tg, .Call (.Name "range" np) [a] [] rp, ifs, 0⟩] scope pos) 0 (.ref it) (.ref D) ce) (compPost (model X.prog X.w) X.A X.xe use Qf (.ref D) s3.heap.objs.size) s4
  have stat : ∀ {H' : Hp} {s' : Shared} {σ' : L2.St}, Inv Y [] σ' H' s' → (∀ b ∈ fp, H' b = none) → ∀ b ∈ fp, FpOk Y [] H' b := fun {H' s' σ'} I' hn b hb =>
    ⟨hn b hb, (I'.ok.exf b hb).1, I'.ok.exfs b hb, .inl hb, fun x c e => (I'.ok.exf b hb).2 x c e, fun p hp => (f3 b hb).1.2.2.2.2.2 p (by rw [List.append_nil] at hp; exact List.mem_append_left _ hp)⟩
  have loop : codeAny (model X.prog X.w) X.A (.compLoop (.ListComp elt [⟨tg, .Call (.Name "range" np) [a] [] rp, ifs, 0⟩] scope pos) 0 (.ref it) (.ref D) ce) (compPost (model X.prog X.w) X.A X.xe use Qf (.ref D) s3.heap.objs.size) s4 := by
    refine compLoop_any (fun k s' => ∃ i H', Inv Y [] (wipe σ (own.map (·.2))) H' s' ∧ tn i s'.heap ∧ (∀ b ∈ fp, H' b = none) ∧ M i k H') ?_ m0 ⟨0, _, I4, T.keep _ _ _ st3 fun b _ o e => up4 b o e, fun b hb => (f3 b hb).1.1, w0'⟩
    rintro k s5 ⟨i, H5, I5, st5, n5, w5⟩
    rcases turn i k H5 w5 with ⟨stop, qq⟩ | ⟨go, Nx, hNx, step⟩
    · refine thnF (T.done Y rfl rfl rfl hcY i [] s5 _ H5 (fun _ _ => False) I5 (stat I5 n5) st5 stop) fun r s6 ⟨hr, I6⟩ => ?_
      subst hr
      have I7 : Inv X pins σ H5 s6 := I3.call' (ch := fp) I6.os I6.base I6.hok I6.bare fun b hb => ⟨(f3 b hb).1.2.2.2.1, (f3 b hb).1.2.1, (f3 b hb).1.2.2.2.2.1, (f3 b hb).1.2.2.2.2.2⟩
      obtain ⟨m, hn, _⟩ := I6.loc
      exact fin D s3.heap.objs.size s6 m H5 I7 qq hn (I3.fpOk (H' := H5) (Nat.le_refl _) I6.free)
    · refine thnF (T.item Y rfl rfl rfl hcY i [] s5 _ H5 (fun _ _ => False) I5 (stat I5 n5) st5 go) fun r s6 ⟨u, hr, h6⟩ => ?_
      subst hr
      refine thnF h6 fun _ s7 ⟨x, H7, I7, r7, y7, st7, n7⟩ => ?_
      refine thnF (pg.run _ s7 _ H7 x u _ (I7.pinned (stat I7 n7) (T.obj _ _ st7)) r7 (step x H7 y7)) fun _ s8 ⟨σ8, H8, I8, hw8, q8⟩ => thnF (pt.run _ s8 σ8 H8 _ I8 q8) fun b s9 ⟨H9, I9, q9⟩ => ?_
      have next : ∀ {s' : Shared} {H' : Hp}, Inv Y ([] ++ pinsAt fp s7.heap) σ8 H' s' → Nx H' → ∃ m, m < k ∧ ∃ i H', Inv Y [] (wipe σ (own.map (·.2))) H' s' ∧ tn i s'.heap ∧ (∀ b ∈ fp, H' b = none) ∧ M i m H' := fun {s' H'} I' nx => by
        obtain ⟨m', hm', w'⟩ := hNx H' nx
        have same : ∀ b ∈ fp, ∀ o, s7.heap.get? b = some o → s'.heap.get? b = some o ∧ H' b = none := fun b hb o e =>
          ⟨(I'.pin (b, o) (List.mem_append_right _ (List.mem_append_right _ (mem_pinsAt hb e)))).1, (I'.pin (b, o) (List.mem_append_right _ (List.mem_append_right _ (mem_pinsAt hb e)))).2.1⟩
        refine ⟨m', hm', i + 1, H', (I'.unpinned (pins := [])).weak (by rw [← hw8, wipe_length]) fun j v e => ?_, T.keep _ _ _ st7 fun b hb o e => (same b hb o e).1, fun b hb => ?_, w'⟩
        · rw [← hw8] at e
          exact (wipe_some e).1
        · obtain ⟨o, e, _⟩ := T.obj _ _ st7 b hb
          exact (same b hb o e).2
      cases b with
      | true =>
        simp only [if_true] at q9 ⊢
        exact thnF (pe.run _ s9 σ8 H9 _ I9 q9) fun z s10 ⟨yv, H10, I10, r10, acc, hD10, hz10, nx⟩ => app_ok (X := Y) I10 hD10 hz10 r10 fun s11 I11 => next I11 nx
      | false =>
        simp only [Bool.false_eq_true, if_false] at q9 ⊢
        exact next I9 q9
  exact codeAny_compStart_list loop (T.self X.A 0 _ _ _ (T.keep _ _ _ st3 fun b _ o e => up4 b o e) loop)
theorem ps_setLcHot {i : Nat} {y : Str} {py spos : Pos} (hy : X.N[i]? = some y) (hyl : X.env.scope.names.lookup y = some .local) (hsw : swapsWith (.ListComp elt [⟨tg, .Call (.Name "range" np) [a] [] rp, ifs, 0⟩] scope pos) (some (.Name y py)) spos.line X.env = pure true)
    (hot : HotP X) (hN : X.N.Nodup) (hg0 : Gl X "range") (hm : X.mg "range" = none) (ha : PA X [a] ta) (ok : BlkOk X.N X.env.scope scope own)
    (hg : ∀ (s : Shared) (H : Hp) (C : Addr) (cl : List (Str × Addr)) (fp : List Addr), PG (blkP X s H scope (compEnvC scope cl C X.env) fp) tg g) (ht : ∀ (s : Shared) (H : Hp) (C : Addr) (cl : List (Str × Addr)) (fp : List Addr), PTs (blkP X s H scope (compEnvC scope cl C X.env) fp) ifs tt)
    (he : ∀ (s : Shared) (H : Hp) (C : Addr) (cl : List (Str × Addr)) (fp : List Addr), PE (blkP X s H scope (compEnvC scope cl C X.env) fp) elt te)
    (hs : ∀ x, foldedSetIterable (.Call (.Name "range" np) [a] [] rp) X.env x = pure x) (hse : starEach [a] X.env = [(false, eval a X.env)]) :
    PS X (.Assign [.Name y py] (.ListComp elt [⟨tg, .Call (.Name "range" np) [a] [] rp, ifs, 0⟩] scope pos) spos) (tAsg (tLc (iRng1 ta) g tt te (own.map (·.2))) (gName i)) :=
  ⟨fun pins s σ H D I h => by
    rw [exec_Assign_Name_used _ _ _ _ hsw]
    refine wpAny_bind (wpAny_standAt (wpAny_bind (wpAny_bind ?_)))
    have h : tLc (iRng1 ta) g tt te (own.map (·.2)) σ H (fun x H1 => gName i x σ H1 D.nx) := h
    refine thn (lcHot (Qf := fun _ s' => SP X pins D .next s') I hot hN hg0 hm ha ok hg ht he hs hse h fun L C s' m H' I' q hn f => ?_) fun _ s' hq => wpAny_pure (wpAny_pure hq)
    refine wpAny_assign_Name (store_ok2 (v := V.ref L) I' hN hy (.inl hyl) rfl (fun s2 I2 ⟨z, sb, hz⟩ => ?_) (.inr hyl))
    obtain ⟨g0, g1, g2, g3, g4, g5⟩ := f
    have hne : C ≠ z := hz.elim (fun e => by rw [e]; exact g1) fun e => fun w => g4 y z e w.symm
    exact ⟨m, hn.sameBut sb hne, fun h3 sb3 => ⟨_, H', I2.turned (t' := s2.toks) (fun b o hb e => (sb3.2 b hb).trans e) g0 g1 g3 g4 g5, q⟩⟩⟩
end
section
variable {X : Cx} {W : L2.WX} {y : XA}
theorem rng1_ok {σ : L2.St} {H : Hp} {R : It → Hp → Prop} (h : lI X.K W (xRng1 y) σ H R) : iRng1 (lA X.K W y) σ H R := by
  obtain ⟨B, Wd, fr, frv, ρ, K0, Z0, hl, s, hx, hK, hZ⟩ := h
  refine ⟨B, Wd, fr, frv, ρ, _, Z0, hl, s, hx, fun os ρ1 vs H1 hle k1 s1 => ?_, hZ⟩
  obtain ⟨S, e1, e2, rp, s2⟩ := stack_reps hle s1
  split at k1
  · rename_i j q
    rw [q] at rp
    obtain ⟨v, r, rfl, rv, rr⟩ := rp
    have rr' : r = [] := rr
    subst rr'
    exact ⟨j, congrArg (fun z => [z]) (show v = .int j from rv), k1.1.1, k1.1.2, hK _ _ _ _ _ k1.2 e1 s2 iter_range⟩
  · exact k1.elim
variable {elt tg a : Expr} {ifs : List Expr} {scope : Scope} {own : List (Str × Nat)} {pos rp np : Pos} {g : XG} {tt : XT} {x : XE} {sl : List Nat}
theorem ps_setLcH (i : Nat) {n : Str} {py spos : Pos} (hot : HotP X) (hN : X.N.Nodup) (hg0 : Gl X "range") (hm : X.mg "range" = none) (ha : PAt X W [a] y) (ok : BlkOk X.N X.env.scope scope own) (ho : ∀ i ∈ sl, i ∈ own.map (·.2))
    (hg : ∀ (s : Shared) (H : Hp) (C : Addr) (cl : List (Str × Addr)) (fp : List Addr), PGt (blkP X s H scope (compEnvC scope cl C X.env) fp) sl tg g) (ht : ∀ (s : Shared) (H : Hp) (C : Addr) (cl : List (Str × Addr)) (fp : List Addr), PTst (blkP X s H scope (compEnvC scope cl C X.env) fp) W0 ifs tt)
    (he : ∀ (s : Shared) (H : Hp) (C : Addr) (cl : List (Str × Addr)) (fp : List Addr), PEt (blkP X s H scope (compEnvC scope cl C X.env) fp) W0 elt x)
    (hy : X.N[i]? = some n := by rfl) (hyl : X.env.scope.names.lookup n = some .local := by rfl) (hsw : swapsWith (.ListComp elt [⟨tg, .Call (.Name "range" np) [a] [] rp, ifs, 0⟩] scope pos) (some (.Name n py)) spos.line X.env = pure true := by exact sw_true rfl rfl rfl (by decide +kernel))
    (hs : ∀ x, foldedSetIterable (.Call (.Name "range" np) [a] [] rp) X.env x = pure x := by intro _; rfl) (hse : starEach [a] X.env = [(false, eval a X.env)] := by rfl) :
    PSt X W (.Assign [.Name n py] (.ListComp elt [⟨tg, .Call (.Name "range" np) [a] [] rp, ifs, 0⟩] scope pos) spos) (xAsg (xLc (xRng1 y) g tt x (own.map (·.2))) (gN i)) :=
  PS.imp (ps_setLcHot (g := lG X.K sl g) (tt := lT X.K W0 tt) (te := lE X.K W0 x) hy hyl hsw hot hN hg0 hm ha ok hg ht he hs hse) fun D σ H ⟨B, Wd, fr, frv, ρ, D0, hl, s, hx, q1, q2, q3, q4, q5⟩ => by
    have h : tLc (lI X.K W (xRng1 y)) (lG X.K sl g) (lT X.K W0 tt) (lE X.K W0 x) (own.map (·.2)) σ H (fun v H1 => L2.gName i v σ H1 D.nx) :=
      lc_ok (W := W) ho ⟨B, Wd, fr, frv, ρ, _, _, hl, s, hx, fun o ρ1 v H1 k1 e1 => q1 _ _ _ k1 (e1.setAt hl i), q5 σ⟩
    exact rng1_ok h
theorem Reps.look {K : PySem.W.Frag} {S : Hp} {f : Str} {t : T} : ∀ {fs : List Str} {ts : List T} {vs : List V}, Reps K S ts vs → fs.length = ts.length → lookT fs ts f = some t → ∃ w, (fs.zip vs).lookup f = some w ∧ Rep K S t w
  | [], ts, vs, r, hl, h => by simp [lookT] at h
  | g :: fs, [], vs, r, hl, h => by simp at hl
  | g :: fs, u :: ts, vs, r, hl, h => by
    obtain ⟨v, vr, rfl, h1, h2⟩ := r
    unfold lookT at h
    rw [List.zip_cons_cons, List.lookup_cons] at h ⊢
    cases q : f == g with
    | true =>
      rw [q] at h
      cases h
      exact ⟨v, rfl, h1⟩
    | false =>
      rw [q] at h
      exact Reps.look h2 (by simpa using hl) h
variable {C d p : Addr} {oe : Obj} {pn : List (Addr × Obj)} {e : Expr} {f : Str}
theorem pe_fld (T : XfC X.K C) (hno : PySem.W.findIn X.K (.ref C) f = some none) (hz : L2N.Zn (.ref C) (some d) oe) (hf : ∃ vs, oe.data = .fields vs) (he : PEt (X.suite p ((p, oe) :: pn)) W e x)
    (hb : attributeBase e f X.env (eval e X.env) = eval e X.env := by rfl) : PEt (X.suite p ((p, oe) :: pn)) W (.Attribute e f pos) (xFld p d C f x) :=
  PE.imp (pe_xf (d := some d) T hno (L2N.Zn.zc hz) hf he hb) fun σ H Q ⟨B, Wd, fr, frv, ρ, K0, Z0, hl, s, hx, hK, hZ⟩ => ⟨B, Wd, fr, frv, ρ, _, Z0, hl, s, hx, fun o ρ1 v H1 k1 s1 => by
    obtain ⟨B', Wd', _, h3, back⟩ := Sim.front (as := [.sh o.t]) (va := [v]) rfl s1.frz1
    obtain ⟨S, h1, h2, rp, bk⟩ := Smo.get1 h3
    split at k1
    · rename_i a' d' C' fs ts eo
      obtain ⟨rfl, rfl, rfl, k1⟩ := k1
      rw [eo] at rp
      obtain ⟨rfl, vs, hS, hlen, rs⟩ := rp
      split at k1
      · rename_i t et
        obtain ⟨w, e1, e2⟩ := Reps.look rs hlen et
        exact ⟨rfl, rfl, d', fs.zip vs, w, rfl, h2 _ _ hS, e1, hK _ _ _ _ k1 (back [.sh t] [w] _ (bk [t] [w] (reps1 e2)))⟩
      · exact k1.elim
    · exact k1.elim, hZ⟩
end
end TL
namespace TL
open PySem PySem.Spec PyProof.Rows L2
theorem bt_ValueError : bootBuiltins "ValueError" = some (.type "ValueError") := by decide +kernel
/-- the classes of these names -/
def csK (K : PySem.W.Frag) (ns : List Str) : Addr → Prop := fun C => ∃ n ∈ ns, C = He.ga K n
theorem hotP_suite {X : Cx} {a : Addr} {oe : Obj} {pn : List (Addr × Obj)} {cls : Value} {d : Option Addr} (hz : L2N.Zn cls d oe) (hf : ∃ vs, oe.data = .fields vs) : HotP (X.suite a ((a, oe) :: pn)) :=
  let ⟨vs, hv⟩ := hf; ⟨(a, oe), List.mem_cons_self, rfl, vs, hv, hz.2.2 vs hv⟩
theorem holds_suite {X : Cx} {a d C : Addr} {oe : Obj} {pn : List (Addr × Obj)} (hz : L2N.Zn (.ref C) (some d) oe) (hf : ∃ vs, oe.data = .fields vs) : HoldsX (X.suite a ((a, oe) :: pn)) a d C := ⟨oe, List.mem_cons_self, hz, hf⟩
def xListRg (x : XE) : XE := fun ρ K Z => x ρ (fun o ρ1 => match o.t with
  | .int n => -(2 ^ 62) ≤ n ∧ n ≤ 2 ^ 24 ∧ K (.lst ((rangeL 0 n.toNat).map .sh)) ρ1
  | _ => False) Z
section
variable {X : Cx} {W : L2.WX} {a : Expr} {x : XE} {p p2 pos pos2 : Pos}
end
end TL
set_option maxHeartbeats 2000000
namespace TL
open PySem PySem.Spec PyProof.Rows L2
section
variable {X : Cx} {pins : List (Addr × Obj)} {σ : L2.St} {H : Hp} {s : Shared}
theorem Inv.cellOff (I : Inv X pins σ H s) (hN : X.N.Nodup) {i : Nat} {n : Str} {c : Addr} {h' : Heap} {w0 w : Option Value} {tk : Nat} (hi : X.N[i]? = some n) (hfn : X.fn n = true) (hc : X.env.cells.lookup n = some c) (hz : s.heap.IsCell c w0) (hc' : h'.IsCell c w) (hs : Heap.SameBut c s.heap h') :
    Inv X pins (σ.set i none) H { s with heap := h', toks := tk } := by
  obtain ⟨m, hn, hl⟩ := id I.loc
  obtain ⟨oc, hoc, hod⟩ := hz
  have far : ∀ b o, X.s_0.heap.get? b = some o → b ≠ c := fun b o e => Nat.ne_of_lt (Nat.lt_of_lt_of_le (Heap.lt_size e) (I.ok.cab n c hfn hc))
  refine ⟨I.ok, I.os, I.bare, ⟨fun b o e f hb hx => (hs.2 b (far b o e)).trans (I.base.keep b o e f hb hx), fun b o e f hb hx => ?_, I.base.free, fun b o e hx => ?_, I.base.tups, I.base.frzs, I.base.tbls⟩,
    ⟨m, hn.sameBut hs (Ne.symm (I.cne n c hc)), fun j y v e1 e2 e3 => ?_⟩, fun y c' e => ?_, I.free, I.freeC, fun p hp => ?_, fun b ob e => ?_, by simpa using I.len⟩
  · obtain ⟨sl, q⟩ := I.base.slot b o e f hb hx
    exact ⟨sl, (hs.2 b (far b o e)).trans q⟩
  · obtain ⟨u, q⟩ := I.base.there b o e hx
    exact ⟨u, (hs.2 b (far b o e)).trans q⟩
  · by_cases hj : j = i
    · subst hj
      rw [List.getElem?_set] at e2
      simp at e2
    · rw [List.getElem?_set_ne (Ne.symm hj)] at e2
      obtain ⟨u, r, q⟩ := hl j y v e1 e2 e3
      rcases q with q | ⟨k, c', e, z⟩
      · exact ⟨u, r, .inl q⟩
      · exact ⟨u, r, .inr ⟨k, c', e, z.sameBut hs fun z => hj (nodup_ix hN e1 (I.ok.inj _ _ _ (z ▸ e) hc ▸ hi))⟩⟩
  · by_cases hcc : c' = c
    · rw [hcc]
      exact ⟨_, hc'⟩
    · obtain ⟨w2, z2⟩ := I.cell y c' e
      exact ⟨w2, z2.sameBut hs hcc⟩
  · obtain ⟨e, f, g, k, d⟩ := I.pin p hp
    refine ⟨(hs.2 p.1 fun z => ?_).trans e, f, g, k, d⟩
    rw [z, hoc] at e
    exact d w0 (by rw [← Option.some.inj e]; exact hod)
  · refine (I.hok b ob e).stay (fun c2 w2 hc2 q => (hs.2 c2 fun z => ?_).trans q) (fun _ q => q) fun _ _ q => q
    have hf := I.freeC n c hc
    subst z
    rcases hc2 with z | z
    · rw [← z, hf] at e; cases e
    · rw [hf] at z; cases z
theorem goneCell {M : Model} {A : Around} {E : Value → Shared → Prop} {i : Nat} {n : Str} {pos : Pos} {Q : Unit → Shared → Prop} (I : Inv X pins σ H s) (hN : X.N.Nodup) (hi : X.N[i]? = some n) (hl : X.env.kindOf n = some .cell) (hfn : X.fn n = true)
    (h : ∀ s', Inv X pins (σ.set i none) H s' → Q () s') : wpAny M A (do bindName X.env n .none; unbindBehindTheSuite X.env n pos) Q E s := by
  refine wpAny_bind (wpAny_bindName (store_ok (v := .non) I hN hi (.inr hl) rfl (fun s1 I1 => ?_) (.inl hfn)))
  obtain ⟨c, hc⟩ := I1.ok.has n (.inl hl)
  obtain ⟨m, hn, look⟩ := id I1.loc
  have hlt : i < σ.length := by rw [I.len]; exact (List.getElem?_eq_some_iff.mp hi).1
  obtain ⟨u, _, q⟩ := look i n .non hi (by rw [List.getElem?_set_self hlt]) (.inr (.inl hl))
  have z : s1.heap.IsCell c (some u) := by
    rcases q with ⟨k, _⟩ | ⟨_, c', e, z⟩
    · rw [hl] at k; cases k
    · rw [hc] at e; cases e
      exact z
  unfold unbindBehindTheSuite
  refine wpAny_onRaise ?_
  unfold unbindName
  refine wpAny_bind (wpAny_point (wpAny_bind ?_))
  unfold deleteName
  simp only [hl]
  refine wpAny_bind (wpAny_cellOf hc (wpAny_bind (wpAny_cellGet z ?_)))
  simp only [Option.isSome_some, if_true]
  refine wpAny_cellSet z fun h' hc' hs => wpAny_point (h _ ?_)
  have J := Inv.cellOff I1 hN (tk := s1.toks) hi hfn hc z hc' hs
  rw [List.set_set] at J
  first
    | exact J
    | exact J.tok _
end
section
variable {X : Cx} {x n : Str} {c : Value} {i : Nat} {body suite : List Stmt} {b₀ : Stmt} {np pos pos' : Pos} {tb : L2.WX → TS} {ts : Addr → Value → Option Addr → TS} {Wout : L2.WX}
theorem ps_tryC (hs : X.stack = X.env :: X.outer) (hf : X.env.frame = some X.env.locals) (hN : X.N.Nodup) (hi : X.N[i]? = some n) (hl : X.env.kindOf n = some .cell) (hfn : X.fn n = true) (hc : Names X x c) (tk : Takes X Wout)
    (hb : ∀ (W : L2.WX) (pn : List (Addr × Obj)) (xe : Value → Shared → Prop), Takes (X.tr pn xe) W → PassesOwn (model X.prog X.w) X.A X.env xe → PSs (X.tr pn xe) body (tb W))
    (hsu : ∀ (a : Addr) (oe : Obj) (cls : Value) (d : Option Addr) (pn : List (Addr × Obj)), L2N.Zn cls d oe → (∃ vs, oe.data = .fields vs) → PSs (X.suite a ((a, oe) :: pn)) (b₀ :: suite) (ts a cls d)) :
    PS X (.Try body [.ExceptHandler (some (.Name x np)) (some n) (b₀ :: suite) pos'] [] [] pos) (fun D σ H => tb (wAs X.K c i ts Wout D) D σ H) := by
  refine ⟨fun pins s σ H D I h => ?_⟩
  have ok := I.ok
  have frames : X.A.frames = some (X.env :: X.outer) := ok.frames.trans (congrArg some hs)
  let caught : Value → Shared → Prop := fun e s₁ => wpAny (model X.prog X.w) X.A (noteFrame e X.env) (fun _ s₂ => wpAny (model X.prog X.w) X.A (setFlight e none) (fun _ s₃ =>
    wpAny (model X.prog X.w) X.A (handleBy e X.env [.ExceptHandler (some (.Name x np)) (some n) (b₀ :: suite) pos']) (SP X pins D) X.xe s₃) X.xe s₂) X.xe s₁
  have catches : Takes (X.tr (X.pn ++ pins) caught) (wAs X.K c i ts Wout D) := fun u s' xx => by
    obtain ⟨a, B, sI, pins', σ1, H1, cls, d, rfl, J', nb, up, sky, na, os, ag, b, hb1, yes, no⟩ := xx
    have J : Inv X pins σ1 H1 sI := J'.ofTry ok
    rw [show (X.tr (X.pn ++ pins) caught).stack = X.env :: X.outer from hs] at sky
    show wpAny (model X.prog X.w) X.A (noteFrame (.ref a) X.env) _ _ _
    refine L2N.Sky.land L2N.Zn.steady frames hf sky fun h3 fl3 up3 => ?_
    have J3 : Inv X pins σ1 H1 { s' with heap := h3 } := J.landed nb fl3.1 (up.trans up3) os ag
    obtain ⟨oe3, vs3, he3, hz3, hd3⟩ := fl3.there
    have nofr : a ∉ frs (X.env :: X.outer) := fun hm => by
      obtain ⟨_, o', e', hnf⟩ := fl3.2.2.1.mem hm
      rw [he3] at e'
      cases e'
      exact hnf _ hd3
    have nL : a ≠ X.env.locals := fun z => nofr (List.mem_filterMap.mpr ⟨X.env, List.mem_cons_self, by rw [hf, z]⟩)
    have nF : a ∉ X.fs := fun hm => by
      obtain ⟨e, he, q⟩ := List.mem_filterMap.mp hm
      exact nofr (List.mem_filterMap.mpr ⟨e, List.mem_cons_of_mem _ he, q⟩)
    have S3 := J3.suite he3 hd3 na nL nF
    have asked := PySem.W.exm_one (M := model X.prog X.w) J3.kIn (fun A Q E s k q => wpAny_typeOf_ref (k _ _ he3) (by rw [hz3.1]; exact q)) hb1
    have named : ∀ {Q : Value → Shared → Prop} {E : Value → Shared → Prop}, Q c { s' with heap := h3 } → wpAny (model X.prog X.w) (X.A.mark (some (.ref a))) (eval (.Name x np) X.env) Q E { s' with heap := h3 } := fun {Q E} q => by
      obtain ⟨hg, hdbg, hm | ⟨hm, hv, hnn⟩⟩ := hc
      · exact ld_glob (X := X.suite a ((a, oe3) :: (X.pn ++ pins))) S3 hg hm q hdbg
      · exact ld_blt (X := X.suite a ((a, oe3) :: (X.pn ++ pins))) S3 hg hm hv q hnn hdbg
    refine wpAny_handleBy_cons (codeAny_handlers_test (named (asked.here ?_))) (by intro q; cases q)
    rcases b with _ | _
    · show wpAny _ X.A (handleBy (.ref a) X.env []) _ _ _
      refine wpAny_handleBy_nil ?_
      obtain ⟨k1, k2, k3, oe, vs, T, oT, ts', he, hz, hd, h1, hr⟩ := id fl3
      unfold PySem.passOn
      refine wpAny_bind (wpAny_field he hd h1 ?_)
      rw [if_neg (show ¬ ((Value.ref T == Value.none) = true) from by simp)]
      have on : wpAny (model X.prog X.w) X.A (setFlight (.ref a) X.env.frame) (fun _ s4 => wpAny (model X.prog X.w) X.A (throw (.ref a) : Sem Flow) (SP X pins D) X.xe s4) X.xe { s' with heap := h3 } := by
        rw [hf]
        exact HandSPX.setFlight_upZ fl3 fun h4 hh4 up4 => wpAny_throw (tk _ _ ⟨a, B, sI, pins, σ1, H1, cls, d, rfl, J, nb, (up.trans up3).trans up4, .inr (.inr (by rw [hs]; exact hh4)), na, os, ag, no rfl⟩)
      first
        | exact wpAny_bind (wpAny_pure (wpAny_bind on))
        | exact wpAny_bind on
    · refine codeAny_handlers_suite_as (HandSPX.lands_againZ fl3 fun h4 fl4 up4 => ?_)
      have J4 : Inv X pins σ1 H1 { s' with heap := h4 } := J.landed nb fl4.1 ((up.trans up3).trans up4) os ag
      obtain ⟨oe4, vs4, he4, hz4, hd4⟩ := fl4.there
      refine store_ok (X := X.suite a ((a, oe4) :: (X.pn ++ pins))) (v := .ref a) (J4.suite he4 hd4 na nL nF) hN hi (.inr hl) rfl (fun s5 S5 => ?_) (.inl hfn)
      have last : ∀ {σ6 : L2.St} {H6 : Hp} {Q : Shared → Prop} {s6 : Shared}, Inv (X.suite a ((a, oe4) :: (X.pn ++ pins))) [] σ6 H6 s6 → (∀ s7, Inv X pins (σ6.set i none) H6 s7 → Q s7) →
          wpAny (model X.prog X.w) X.A (do bindName X.env n .none; unbindBehindTheSuite X.env n pos') (fun _ s7 => Q s7) X.xe s6 := fun S6 hq => goneCell (S6.unsuite ok) hN hi hl hfn hq
      refine wpAny_mono ((hsu a oe4 cls d (X.pn ++ pins) hz4 ⟨_, hd4⟩).run [] s5 _ H1 _ S5 (yes rfl a na)) (fun f s6 hsp => ?_) (fun _ _ z => False.elim z)
      cases f <;> first
        | (obtain ⟨v6, σ6, H6, S6, r6, q6⟩ := hsp; exact last S6 fun s7 J7 => ⟨_, _, _, J7, r6, q6⟩)
        | (obtain ⟨σ6, H6, S6, q6⟩ := hsp; exact last S6 fun s7 J7 => ⟨_, _, J7, q6⟩)
  refine wpAny_Try_except (wpAny_mono ((hb (wAs X.K c i ts Wout D) (X.pn ++ pins) caught catches PassesOwn.looking).run [] s σ H D (I.toTry _) h) (fun f s1 hsp => ?_) fun e s1 he => he)
  cases f with
  | next =>
    obtain ⟨σ', H', J', q⟩ := hsp
    exact wpAny_execs_nil ⟨σ', H', J'.ofTry ok, q⟩
  | brk =>
    obtain ⟨σ', H', J', q⟩ := hsp
    exact ⟨σ', H', J'.ofTry ok, q⟩
  | cont =>
    obtain ⟨σ', H', J', q⟩ := hsp
    exact ⟨σ', H', J'.ofTry ok, q⟩
  | ret u =>
    obtain ⟨v, σ', H', J', r, q⟩ := hsp
    exact ⟨v, σ', H', J'.ofTry ok, r, q⟩
variable {W : L2.WX} {nm : Str} {xb : XS} {xs : Addr → Addr → Addr → XS}
theorem ps_tryAsC {Cs : Addr → Prop} (i : Nat) (hN : X.N.Nodup) (hc : Names X nm c) (tk : Takes X W)
    (hb : ∀ (W' : L2.WX) (pn : List (Addr × Obj)) (xe : Value → Shared → Prop), Takes (X.tr pn xe) W' → PassesOwn (model X.prog X.w) X.A X.env xe → PSst (X.tr pn xe) W' body xb)
    (hsu : ∀ (a : Addr) (oe : Obj) (C d : Addr) (pn : List (Addr × Obj)), Cs C → L2N.Zn (.ref C) (some d) oe → (∃ vs, oe.data = .fields vs) → PSst (X.suite a ((a, oe) :: pn)) W0 (b₀ :: suite) (xs a d C))
    (hi : X.N[i]? = some n := by rfl) (hl : X.env.kindOf n = some .cell := by rfl) (hfn : X.fn n = true := by rfl) (hs : X.stack = X.env :: X.outer := by rfl) (hf : X.env.frame = some X.env.locals := by rfl) :
    PSt X W (.Try body [.ExceptHandler (some (.Name nm np)) (some n) (b₀ :: suite) pos'] [] [] pos) (xTry Cs (fun C => PySem.W.exmOne X.K (.ref C) c) i xb xs) := by
  refine PS.imp (ps_tryC (tb := fun W' => lS X.K W' xb) (ts := fun a cls d D σ H => ∃ C dd, cls = .ref C ∧ d = some dd ∧ Cs C ∧ lS X.K W0 (xs a dd C) D σ H) (Wout := W) hs hf hN hi hl hfn hc tk hb
    fun a oe cls d pn z hd => ⟨fun pins s σ H D I ⟨C, dd, e1, e2, hC, h⟩ => by
      subst e1 e2
      exact (hsu a oe C dd pn hC z hd).run pins s σ H D I h⟩) fun D σ H h => try_end h
end
end TL
namespace TL
open PySem PySem.Spec PyProof.Rows L2
/-- what a def does, told of its arguments' trees -/
abbrev GT := List T → (O → Prop) → ZX → Prop
/-- the same for a def that changes its first argument -/
abbrev GI := O → List T → (O → O → Prop) → ZX → Prop
abbrev GT.pf (g : GT) : PF := fun os => g (O.ts os)
abbrev GI.pf (g : GI) : IF := fun o os => g o (O.ts os)
def slots (m : Nat) (ts : List T) : R := ts.map (fun t => some (.sh t)) ++ List.replicate (m - ts.length) none
def endP (K0 : O → Prop) (Z0 : ZX) : ED := { nx := fun _ => K0 (.sh .non), rt := fun o _ => K0 o, ex := fun C fs ts _ => Z0 C fs ts }
def endI (v0 : V) (K0 : O → O → Prop) (Z0 : ZX) : ED := { nx := fun ρ => ∃ o', ρ[0]? = some (some (.io v0 o')) ∧ K0 (.sh .non) o', rt := fun o ρ => ∃ o', ρ[0]? = some (some (.io v0 o')) ∧ K0 o o', ex := fun C fs ts _ => Z0 C fs ts }
section
variable {P : Program} {w : World} {K : PySem.W.Frag} {mg : Str → Option Value} {base : Heap} {x : Str} {st : Stmt} {N ps : List Str} {k : Nat}
theorem sp_frz {g : GT} {vs : List V} {H : Hp} {Q : VK} {E : XK} (h : spP K g.pf vs H Q E) : ∃ ts, spP K (fun os K0 Z0 => os = ts.map O.sh ∧ g ts K0 Z0) vs H Q E := by
  obtain ⟨B, Wd, os, K0, Z0, h1, h2, h3, h4⟩ := h
  have hle : os.length = vs.length := by have := h1.len; simpa using this
  obtain ⟨B', Wd', _, h5, back⟩ := Sim.front (os := []) (vs := []) (as := os) (va := vs) hle (by simpa using h1)
  have h6 := back _ _ _ h5.frz
  exact ⟨O.ts os, B, Wd, (O.ts os).map .sh, K0, Z0, by simpa using h6, ⟨rfl, h2⟩, h3, h4⟩
theorem fn_PT {g : GT} (F : Df K mg x st ps) (S : FnScope N ps (defScope st)) (ar : ∀ ts K0 Z0, g ts K0 Z0 → ts.length = ps.length)
    (hbody : ∀ (cdv : Value) (A : Around) (outer : List Env) (s : Shared) (H : Hp) (E : XK), Room k (cxD P w K mg base N x st cdv A outer s H E).A → Takes (cxD P w K mg base N x st cdv A outer s H E) (wD E) →
      ∃ xs, PSst (cxD P w K mg base N x st cdv A outer s H E) (wD E) (defBody st) xs ∧ ∀ ts K0 Z0, g ts K0 Z0 → xs (endP K0 Z0) (slots N.length ts)) :
    Fn1 P w K mg base (k + 1) x ps (spP K g.pf) := by
  have F2 : Fn1 P w K mg base (k + 1) x ps (spP K fun os K0 Z0 => ∃ ts, os = ts.map O.sh ∧ g ts K0 Z0) := by
    refine fn_P F S (fun os K0 Z0 ⟨ts, e, h⟩ => by rw [e, List.length_map]; exact ar ts K0 Z0 h) fun cdv A outer s H E hr tk => ?_
    obtain ⟨xs, t, q⟩ := hbody cdv A outer s H E hr tk
    refine ⟨xs, t, fun os K0 Z0 ⟨ts, e, h⟩ => ?_⟩
    have := q ts K0 Z0 h
    subst e
    unfold slots endP at this
    rw [List.map_map, List.length_map]
    exact this
  refine ⟨F2.mgx, F2.kp, ?_⟩
  obtain ⟨fd, b, f⟩ := F2.ok
  have to : ∀ vs H Q E, spP K g.pf vs H Q E → spP K (fun os K0 Z0 => ∃ ts, os = ts.map O.sh ∧ g ts K0 Z0) vs H Q E := fun vs H Q E h => by
    obtain ⟨ts, B, Wd, os, K0, Z0, h1, h2, h3, h4⟩ := sp_frz h
    exact ⟨B, Wd, os, K0, Z0, h1, ⟨ts, h2⟩, h3, h4⟩
  exact ⟨fd, b, ⟨fun vs H Q E h => f.len vs H Q E (to _ _ _ _ h), fun A outer s H args us vs Q E r e0 bt rv h => f.run A outer s H args us vs Q E r e0 bt rv (to _ _ _ _ h)⟩⟩
theorem spI_frz {g : GI} {vs : List V} {H : Hp} {Q : VK} {E : XK} (h : spI K g.pf vs H Q E) : spI K (fun o os K0 Z0 => ∃ ts, os = ts.map O.sh ∧ g o ts K0 Z0) vs H Q E := by
  obtain ⟨B, Wd, o0, v0, os, us, K0, Z0, e, h1, h2, h3, h4⟩ := h
  have hle : os.length = us.length := by have := h1.len; simpa using this
  have h1' : Sim K B Wd (os.map some ++ [some o0]) (us.map some ++ [some v0]) H := by
    have := Sim.unrot (l1 := os.map some) (v1 := us.map some) (l2 := []) (v2 := []) (by simp [hle]) (by simpa using h1)
    exact this
  obtain ⟨B', Wd', _, h5, back⟩ := Sim.front (as := os) (va := us) hle h1'
  have h6 := back _ _ _ h5.frz
  have h7 : Sim K B Wd (some o0 :: (((O.ts os).map .sh).map some)) (some v0 :: us.map some) H := by
    have := Sim.rot (l1 := ((O.ts os).map O.sh).map some) (v1 := us.map some) (l2 := []) (v2 := []) (by simp [O.ts_map, hle]) (by simpa using h6)
    simpa using this
  exact ⟨B, Wd, o0, v0, (O.ts os).map .sh, us, K0, Z0, e, h7, ⟨_, rfl, h2⟩, h3, h4⟩
theorem fn_IT {g : GI} (F : Df K mg x st ps) (S : FnScope N ps (defScope st)) (ar : ∀ o ts K0 Z0, g o ts K0 Z0 → ts.length + 1 = ps.length)
    (hbody : ∀ (cdv : Value) (A : Around) (outer : List Env) (s : Shared) (H : Hp) (E : XK), Room k (cxD P w K mg base N x st cdv A outer s H E).A → Takes (cxD P w K mg base N x st cdv A outer s H E) (wD E) →
      ∃ xs, PSst (cxD P w K mg base N x st cdv A outer s H E) (wD E) (defBody st) xs ∧ ∀ v0 o0 ts K0 Z0, g o0 ts K0 Z0 → xs (endI v0 K0 Z0) (some (.io v0 o0) :: slots (N.length - 1) ts)) :
    Fn1 P w K mg base (k + 1) x ps (spI K g.pf) := by
  have F2 : Fn1 P w K mg base (k + 1) x ps (spI K fun o os K0 Z0 => ∃ ts, os = ts.map O.sh ∧ g o ts K0 Z0) := by
    refine fn_I F S (fun o os K0 Z0 ⟨ts, e, h⟩ => by rw [e, List.length_map]; exact ar o ts K0 Z0 h) fun cdv A outer s H E hr tk => ?_
    obtain ⟨xs, t, q⟩ := hbody cdv A outer s H E hr tk
    refine ⟨xs, t, fun v0 o0 os K0 Z0 ⟨ts, e, h⟩ => ?_⟩
    have := q v0 o0 ts K0 Z0 h
    subst e
    unfold slots endI at this
    rw [List.map_map, List.length_map]
    have e2 : N.length - ts.length - 1 = N.length - 1 - ts.length := by omega
    rw [e2]
    exact this
  refine ⟨F2.mgx, F2.kp, ?_⟩
  obtain ⟨fd, b, f⟩ := F2.ok
  exact ⟨fd, b, ⟨fun vs H Q E h => f.len vs H Q E (spI_frz h), fun A outer s H args us vs Q E r e0 bt rv h => f.run A outer s H args us vs Q E r e0 bt rv (spI_frz h)⟩⟩
end
end TL
namespace TL
open PySem PySem.Spec PyProof.Rows L2
section
variable {a b : XE} {ρ : R} {K : O → R → Prop} {KB : Bool → R → Prop} {Z : ZC} {i j : Int} {Q : O → Prop} {QB : Bool → Prop} {s u : Str} {xs ys ts : List T} {t x : T}
@[simp] theorem ev_gB (g : T → T → (Bool → Prop) → Prop) : gB g x t Q = g x t fun b => Q (.sh (.bl b)) := rfl
@[simp] theorem ev_un1 (f : T → (O → Prop) → Prop) : un1 f [t] Q = f t Q := rfl
@[simp] theorem ev_un2 (f : T → T → (O → Prop) → Prop) : un2 f [x, t] Q = f x t Q := rfl
@[simp] theorem ot_sh : O.t (.sh t) = t := rfl
@[simp] theorem ot_lst (os : List O) : O.t (.lst os) = .lst (O.ts os) := rfl
@[simp] theorem ot_io (v : V) (o : O) : O.t (.io v o) = o.t := rfl
@[simp] theorem ots_nil : O.ts [] = [] := rfl
@[simp] theorem ots_cons (o : O) (os : List O) : O.ts (o :: os) = o.t :: O.ts os := rfl
@[simp] theorem ots_sh : O.ts (xs.map .sh) = xs := by rw [O.ts_map, List.map_map]; exact (List.map_congr_left fun a _ => rfl).trans (List.map_id xs)
@[simp] theorem ots_app (os ps : List O) : O.ts (os ++ ps) = O.ts os ++ O.ts ps := by rw [O.ts_map, O.ts_map, O.ts_map, List.map_append]
@[simp] theorem ou_lst (os : List O) : O.un (.lst os) = .lst os := rfl
@[simp] theorem ou_io (v : V) (o : O) : O.un (.io v o) = o := rfl
@[simp] theorem ore_lst (os : List O) (o : O) : O.re (.lst os) o = o := rfl
@[simp] theorem ore_io (v : V) (o o' : O) : O.re (.io v o) o' = .io v o' := rfl
@[simp] theorem d_bl (k : Bool) : T.d (.bl k) = .bool k := rfl
@[simp] theorem d_int : T.d (.int i) = .int i := rfl
@[simp] theorem d_str : T.d (.str s) = .str s := rfl
@[simp] theorem d_non : T.d .non = .none := rfl
@[simp] theorem d_tup : T.d (.tup xs) = .tuple (T.ds xs) := rfl
@[simp] theorem d_lst : T.d (.lst xs) = .list (T.ds xs) := rfl
@[simp] theorem ds_nil : T.ds [] = [] := rfl
@[simp] theorem ds_cons : T.ds (x :: xs) = x.d :: T.ds xs := rfl
@[simp] theorem isD_bl (k : Bool) : T.isD (.bl k) = true := rfl
@[simp] theorem isD_int : T.isD (.int i) = true := rfl
@[simp] theorem isD_non : T.isD .non = true := rfl
@[simp] theorem isD_str : T.isD (.str s) = PyData.strOk s := rfl
@[simp] theorem isD_tup : T.isD (.tup xs) = T.isDs xs := rfl
@[simp] theorem isD_lst : T.isD (.lst xs) = T.isDs xs := rfl
@[simp] theorem isDs_nil : T.isDs [] = true := rfl
@[simp] theorem isDs_cons : T.isDs (x :: xs) = (x.isD && T.isDs xs) := rfl
@[simp] theorem fl_bl (k : Bool) : T.flat (.bl k) = true := rfl
@[simp] theorem fl_int : T.flat (.int i) = true := rfl
@[simp] theorem fl_non : T.flat .non = true := rfl
@[simp] theorem fl_str : T.flat (.str s) = true := rfl
@[simp] theorem dep_bl (k : Bool) : PyData.depth (.bool k) = 0 := by unfold PyData.depth; rfl
@[simp] theorem dep_int : PyData.depth (.int i) = 0 := by unfold PyData.depth; rfl
@[simp] theorem dep_str : PyData.depth (.str s) = 0 := by unfold PyData.depth; rfl
@[simp] theorem dep_non : PyData.depth .none = 0 := by unfold PyData.depth; rfl
@[simp] theorem dep_tup (l : List PyData) : PyData.depth (.tuple l) = PyData.depthAll l + 1 := by unfold PyData.depth; rfl
@[simp] theorem dep_lst (l : List PyData) : PyData.depth (.list l) = PyData.depthAll l + 1 := by unfold PyData.depth; rfl
@[simp] theorem depA_nil : PyData.depthAll [] = 0 := by unfold PyData.depthAll; rfl
@[simp] theorem depA_cons (d : PyData) (l : List PyData) : PyData.depthAll (d :: l) = max d.depth (PyData.depthAll l) := by rw [PyData.depthAll]
@[simp] theorem eqv_ss : PyData.eqv (.str s) (.str u) = decide (s = u) := by unfold PyData.eqv; exact (Bool.beq_eq_decide_eq s u)
@[simp] theorem eqv_ii : PyData.eqv (.int i) (.int j) = decide (i = j) := by unfold PyData.eqv; exact (Bool.beq_eq_decide_eq i j)
@[simp] theorem eqv_tt (l m : List PyData) : PyData.eqv (.tuple l) (.tuple m) = PyData.eqvAll l m := by rw [PyData.eqv]
@[simp] theorem eqv_ll (l m : List PyData) : PyData.eqv (.list l) (.list m) = PyData.eqvAll l m := by rw [PyData.eqv]
@[simp] theorem eqv_si : PyData.eqv (.str s) (.int j) = false := by unfold PyData.eqv; rfl
@[simp] theorem eqv_is : PyData.eqv (.int i) (.str s) = false := by unfold PyData.eqv; rfl
@[simp] theorem eqv_st (l : List PyData) : PyData.eqv (.str s) (.tuple l) = false := by unfold PyData.eqv; rfl
@[simp] theorem eqv_ts (l : List PyData) : PyData.eqv (.tuple l) (.str s) = false := by unfold PyData.eqv; rfl
@[simp] theorem eqvA_nn : PyData.eqvAll [] [] = true := by unfold PyData.eqvAll; rfl
@[simp] theorem eqvA_nc (d : PyData) (l : List PyData) : PyData.eqvAll [] (d :: l) = false := by unfold PyData.eqvAll; rfl
@[simp] theorem eqvA_cn (d : PyData) (l : List PyData) : PyData.eqvAll (d :: l) [] = false := by unfold PyData.eqvAll; rfl
@[simp] theorem eqvA_cc (d e : PyData) (l m : List PyData) : PyData.eqvAll (d :: l) (e :: m) = (PyData.eqv d e && PyData.eqvAll l m) := by rw [PyData.eqvAll]
theorem ev_eqT : eqT x t QB = ((x.isD = true ∧ t.isD = true ∧ x.d.depth ≤ 64 ∧ t.d.depth ≤ 64) ∧ QB (PyData.eqv x.d t.d)) := rfl
theorem ixN_nat (n k : Nat) (h : k < n) : ixN n (k : Int) = some k := by
  unfold ixN
  rw [if_pos (by omega), if_pos (by omega)]
  simp
theorem ixN_none (n k : Nat) (h : n ≤ k) : ixN n (k : Int) = none := by
  unfold ixN
  rw [if_pos (by omega), if_neg (by omega)]
@[simp] theorem atI_nat {α : Type} (l : List α) (k : Nat) : atI l (k : Int) = l[k]? := by
  unfold atI
  by_cases h : k < l.length
  · rw [ixN_nat _ _ h]; rfl
  · rw [ixN_none _ _ (by omega), List.getElem?_eq_none (by omega)]; rfl
@[simp] theorem atI_0 {α : Type} (l : List α) : atI l 0 = l[0]? := atI_nat l 0
@[simp] theorem atI_1 {α : Type} (l : List α) : atI l 1 = l[1]? := atI_nat l 1
@[simp] theorem atI_2 {α : Type} (l : List α) : atI l 2 = l[2]? := atI_nat l 2
@[simp] theorem atI_3 {α : Type} (l : List α) : atI l 3 = l[3]? := atI_nat l 3
@[simp] theorem atI_4 {α : Type} (l : List α) : atI l 4 = l[4]? := atI_nat l 4
@[simp] theorem atI_5 {α : Type} (l : List α) : atI l 5 = l[5]? := atI_nat l 5
@[simp] theorem atI_6 {α : Type} (l : List α) : atI l 6 = l[6]? := atI_nat l 6
@[simp] theorem atI_m1 {α : Type} (l : List α) : atI l (-1) = l.getLast? := by
  unfold atI ixN
  rw [if_neg (by decide)]
  cases l with
  | nil => rfl
  | cons a l =>
    rw [if_pos (by simp; omega), List.getLast?_eq_getElem?]
    show (a :: l)[((-1 : Int) + ((a :: l).length : Int)).toNat]? = _
    congr 1
    simp
    omega
theorem sIx_pos (n d k : Nat) : HT.sIx n d (some (k : Int)) = min k n := HT.sIx_nat n d k
theorem cutL_from {α : Type} (l : List α) (k : Nat) : cutL l (some (k : Int)) none = l.drop k := by
  unfold cutL
  rw [sIx_pos, HT.sIx_none, List.take_of_length_le (by rw [List.length_drop]; omega)]
  by_cases h : k ≤ l.length
  · rw [Nat.min_eq_left h]
  · rw [Nat.min_eq_right (by omega), List.drop_eq_nil_of_le (by omega), List.drop_eq_nil_of_le (by omega)]
theorem cutL_to {α : Type} (l : List α) (k : Nat) : cutL l none (some (k : Int)) = l.take k := by
  unfold cutL
  rw [sIx_pos, HT.sIx_none, List.drop_zero, Nat.sub_zero]
  by_cases h : k ≤ l.length
  · rw [Nat.min_eq_left h]
  · rw [Nat.min_eq_right (by omega), List.take_of_length_le (by omega), List.take_of_length_le (by omega)]
@[simp] theorem cutL_1 {α : Type} (l : List α) : cutL l (some 1) none = l.drop 1 := cutL_from l 1
@[simp] theorem cutL_2 {α : Type} (l : List α) : cutL l (some 2) none = l.drop 2 := cutL_from l 2
@[simp] theorem frzA_nil : frzA [] = [] := rfl
@[simp] theorem frzA_some (o : O) (r : R) : frzA (some o :: r) = some (.sh o.t) :: frzA r := rfl
@[simp] theorem frzA_none (r : R) : frzA (none :: r) = none :: frzA r := rfl
@[simp] theorem ev_slotL (n : Nat) : slotL ρ n = (match ρ[n]? with | some (some c) => (match c.un with | .lst os => some (c, os) | _ => none) | _ => none) := rfl
@[simp] theorem ev_isSL (n : Nat) : isSL ρ n = ((slotL ρ n).isSome = true) := rfl
@[simp] theorem wipe_n : wipeR ρ [] = ρ := rfl
@[simp] theorem wipe_c (n : Nat) (l : List Nat) : wipeR ρ (n :: l) = (wipeR ρ l).set n none := rfl
@[simp] theorem ev_slots (m : Nat) : slots m ts = ts.map (fun t => some (.sh t)) ++ List.replicate (m - ts.length) none := rfl
@[simp] theorem ev_endP_nx (K0 : O → Prop) (Z0 : ZX) : (endP K0 Z0).nx = fun _ => K0 (.sh .non) := rfl
@[simp] theorem ev_endP_rt (K0 : O → Prop) (Z0 : ZX) : (endP K0 Z0).rt = fun o _ => K0 o := rfl
@[simp] theorem ev_endP_ex (K0 : O → Prop) (Z0 : ZX) : (endP K0 Z0).ex = fun C fs ts _ => Z0 C fs ts := rfl
@[simp] theorem ev_endI_nx (v0 : V) (K0 : O → O → Prop) (Z0 : ZX) : (endI v0 K0 Z0).nx = fun ρ => ∃ o', ρ[0]? = some (some (.io v0 o')) ∧ K0 (.sh .non) o' := rfl
@[simp] theorem ev_endI_rt (v0 : V) (K0 : O → O → Prop) (Z0 : ZX) : (endI v0 K0 Z0).rt = fun o ρ => ∃ o', ρ[0]? = some (some (.io v0 o')) ∧ K0 o o' := rfl
@[simp] theorem ev_endI_ex (v0 : V) (K0 : O → O → Prop) (Z0 : ZX) : (endI v0 K0 Z0).ex = fun C fs ts _ => Z0 C fs ts := rfl
@[simp] theorem ev_pf (g : GT) (os : List O) (K0 : O → Prop) (Z0 : ZX) : GT.pf g os K0 Z0 = g (O.ts os) K0 Z0 := rfl
@[simp] theorem ev_ipf (g : GI) (o : O) (os : List O) (K0 : O → O → Prop) (Z0 : ZX) : GI.pf g o os K0 Z0 = g o (O.ts os) K0 Z0 := rfl
@[simp] theorem ev_suiteD (D : ED) (n : Nat) : suiteD D n = { nx := fun ρ => D.nx (ρ.set n none), rt := D.rt, bk := fun ρ => D.bk (ρ.set n none), ct := fun ρ => D.ct (ρ.set n none) } := rfl
@[simp] theorem size_val : sizeLine = 16777216 := rfl
end
theorem ofString_inj {a b : String} (h : Str.ofString a = Str.ofString b) : a = b := by
  rw [Str.ofString_eq_toList, Str.ofString_eq_toList] at h
  have h1 := congrArg (fun z => z.cps.toList) h
  simp only [List.toList_toArray] at h1
  have h2 : ∀ l m : List Char, l.map Char.toNat = m.map Char.toNat → l = m := fun l => by
    induction l with
    | nil => intro m q; cases m with
      | nil => rfl
      | cons _ _ => simp at q
    | cons c l ih => intro m q; cases m with
      | nil => simp at q
      | cons d m =>
        simp only [List.map_cons, List.cons.injEq] at q
        rw [Char.toNat_inj.mp q.1, ih m q.2]
  exact String.toList_inj.mp (h2 _ _ h1)
@[simp] theorem ofString_eq (a b : String) : (Str.ofString a = Str.ofString b) = (a = b) := propext ⟨ofString_inj, fun h => by rw [h]⟩
@[simp] theorem strOk_lit (s : String) : PyData.strOk (Str.ofString s) = true := by
  rw [Str.ofString_eq_toList]
  unfold PyData.strOk
  rw [← Array.all_toList, List.toList_toArray, List.all_map, List.all_eq_true]
  intro c _
  have := c.valid
  simp only [Function.comp_apply, decide_eq_true_eq]
  rcases this with h | h
  · exact Nat.lt_trans h (by decide)
  · exact h.2
end TL
namespace TL
open PySem PySem.Spec PyProof.Rows L2
class Kb (α : Type) where
  k : α
def onR (l : R) [c : Kb (R → Prop)] : Prop := c.k l
def onT (t : T) [c : Kb (T → Prop)] : Prop := c.k t
def optE {α : Type} (o : Option α) [c : Kb (α → Prop)] : Prop := match o with
  | some a => c.k a
  | none => False
def slE (o : Option (Option O)) [c : Kb (O → Prop)] : Prop := match o with
  | some (some x) => c.k x
  | _ => False
def nameE (o : O) (ρ : R) (i : Nat) [c : Kb (O → R → Prop)] : Prop := match o with
  | .sh t => c.k (.sh t) ρ
  | o => c.k (.sh o.t) (ρ.set i (some (.sh o.t)))
def lstE (o : O) [c : Kb (List O → Prop)] : Prop := match o.un with
  | .lst os => c.k os
  | _ => False
def oneE (os : List O) [c : Kb (O → Prop)] : Prop := match os with
  | [o] => c.k o
  | _ => False
def shE (o : O) [c : Kb (T → Prop)] : Prop := match o with
  | .sh t => c.k t
  | _ => False
def consE (os : List O) [c : Kb (O → List O → Prop)] : Prop := match os with
  | o :: r => c.k o r
  | [] => False
def tupE (t : T) [c : Kb (List T → Prop)] : Prop := match t with
  | .tup ts => c.k ts
  | _ => False
def lsE (t : T) [c : Kb (List T → Prop)] : Prop := match t with
  | .lst ts => c.k ts
  | _ => False
def intE (t : T) [c : Kb (Int → Prop)] : Prop := match t with
  | .int i => c.k i
  | _ => False
def strE (t : T) [c : Kb (Str → Prop)] : Prop := match t with
  | .str i => c.k i
  | _ => False
def brE (b : Bool) [c : Kb (Prop × Prop)] : Prop := if b = true then c.k.1 else c.k.2
def op2E (g : T → T → (O → Prop) → Prop) (x t : T) [c : Kb (O → Prop)] : Prop := g x t c.k
def op2B (g : T → T → (Bool → Prop) → Prop) (x t : T) [c : Kb (Bool → Prop)] : Prop := g x t c.k
def opLE (g : List T → (O → Prop) → Prop) (ts : List T) [c : Kb (O → Prop)] : Prop := g ts c.k
def op1E (g : T → (O → Prop) → Prop) (x : T) [c : Kb (O → Prop)] : Prop := g x c.k
def truE (x : T) [c : Kb (Bool → Prop)] : Prop := truT x c.k
def sliE (x : T) (lo hi : Option Int) [c : Kb (O → Prop)] : Prop := sliceT x lo hi c.k
def callE (g : GT) (ts : List T) [c : Kb (O → Prop)] [z : Kb ZX] : Prop := g ts c.k z.k
def callIE (g : GI) (o : O) (ts : List T) [c : Kb (O → O → Prop)] [z : Kb ZX] : Prop := g o ts c.k z.k
def whE (p : XT) (s : XS) (ρ : R) [c : Kb ED] : Prop := xWhile p s c.k ρ
def foE (it : XI) (g : XG) (s : XS) (ρ : R) [c : Kb ED] : Prop := xFor it g s c.k ρ
def lcE (it : XI) (g : XG) (p : XT) (x : XE) (own : List Nat) (ρ : R) [c : Kb (O → R → Prop)] [z : Kb ZC] : Prop := xLc it g p x own ρ c.k z.k
section
variable {l ρ : R} {t x : T} {os : List O} {o : O} {i : Nat}
@[simp] theorem onR_e {f : R → Prop} : onR l (c := ⟨f⟩) = f l := rfl
@[simp] theorem onT_e {f : T → Prop} : onT t (c := ⟨f⟩) = f t := rfl
@[simp] theorem optE_s {α : Type} {a : α} {f : α → Prop} : optE (some a) (c := ⟨f⟩) = f a := rfl
@[simp] theorem optE_n {α : Type} {f : α → Prop} : optE none (c := ⟨f⟩) = False := rfl
@[simp] theorem slE_s {f : O → Prop} : slE (some (some o)) (c := ⟨f⟩) = f o := rfl
@[simp] theorem nameE_sh {f : O → R → Prop} : nameE (.sh t) ρ i (c := ⟨f⟩) = f (.sh t) ρ := rfl
@[simp] theorem nameE_lst {f : O → R → Prop} : nameE (.lst os) ρ i (c := ⟨f⟩) = onR (ρ.set i (some (.sh (.lst (O.ts os))))) (c := ⟨f (.sh (.lst (O.ts os)))⟩) := rfl
@[simp] theorem nameE_io {v : V} {f : O → R → Prop} : nameE (.io v (.lst os)) ρ i (c := ⟨f⟩) = onR (ρ.set i (some (.sh (.lst (O.ts os))))) (c := ⟨f (.sh (.lst (O.ts os)))⟩) := rfl
@[simp] theorem lstE_lst {f : List O → Prop} : lstE (.lst os) (c := ⟨f⟩) = f os := rfl
@[simp] theorem lstE_io {v : V} {f : List O → Prop} : lstE (.io v (.lst os)) (c := ⟨f⟩) = f os := rfl
@[simp] theorem oneE_e {f : O → Prop} : oneE [o] (c := ⟨f⟩) = f o := rfl
@[simp] theorem shE_e {f : T → Prop} : shE (.sh t) (c := ⟨f⟩) = f t := rfl
@[simp] theorem consE_e {f : O → List O → Prop} : consE (o :: os) (c := ⟨f⟩) = f o os := rfl
@[simp] theorem tupE_e {ts : List T} {f : List T → Prop} : tupE (.tup ts) (c := ⟨f⟩) = f ts := rfl
@[simp] theorem lsE_e {ts : List T} {f : List T → Prop} : lsE (.lst ts) (c := ⟨f⟩) = f ts := rfl
@[simp] theorem intE_e {j : Int} {f : Int → Prop} : intE (.int j) (c := ⟨f⟩) = f j := rfl
@[simp] theorem strE_e {j : Str} {f : Str → Prop} : strE (.str j) (c := ⟨f⟩) = f j := rfl
@[simp] theorem brE_t {p q : Prop} : brE true (c := ⟨(p, q)⟩) = p := if_pos rfl
@[simp] theorem brE_f {p q : Prop} : brE false (c := ⟨(p, q)⟩) = q := if_neg (by decide)
end
section
variable {i j : Int} {Q : O → Prop} {QB : Bool → Prop} {s u : Str} {xs ys ts : List T} {t x : T}
@[simp] theorem v_add_ii : op2E addT (.int i) (.int j) (c := ⟨Q⟩) = Q (.sh (.int (i + j))) := rfl
@[simp] theorem v_add_ss : op2E addT (.str s) (.str u) (c := ⟨Q⟩) = (s.length + u.length ≤ sizeLine ∧ Q (.sh (.str (s ++ u)))) := rfl
@[simp] theorem v_add_ll : op2E addT (.lst xs) (.lst ys) (c := ⟨Q⟩) = (xs.length + ys.length ≤ sizeLine ∧ Q (.lst ((xs ++ ys).map .sh))) := rfl
@[simp] theorem v_add_tt : op2E addT (.tup xs) (.tup ys) (c := ⟨Q⟩) = (xs.length + ys.length ≤ sizeLine ∧ Q (.sh (.tup (xs ++ ys)))) := rfl
@[simp] theorem v_sub_ii : op2E subT (.int i) (.int j) (c := ⟨Q⟩) = Q (.sh (.int (i - j))) := rfl
@[simp] theorem v_mul_ii : op2E mulT (.int i) (.int j) (c := ⟨Q⟩) = ((CMul i j ∨ CMulW i j) ∧ Q (.sh (.int (i * j)))) := rfl
@[simp] theorem v_mul_li : op2E mulT (.lst xs) (.int i) (c := ⟨Q⟩) = (-(2 ^ 63) ≤ i ∧ i < 2 ^ 63 ∧ xs.length * i.toNat ≤ sizeLine ∧ Q (.lst ((List.replicate i.toNat xs).flatten.map .sh))) := rfl
@[simp] theorem v_div_ii : op2E divT (.int i) (.int j) (c := ⟨Q⟩) = (CDivW i j ∧ Q (.sh (.int (i / j)))) := rfl
@[simp] theorem v_mod_ii : op2E modT (.int i) (.int j) (c := ⟨Q⟩) = (0 < j ∧ Q (.sh (.int (i % j)))) := rfl
@[simp] theorem v_pow_ii : op2E powT (.int i) (.int j) (c := ⟨Q⟩) = ((0 ≤ j ∧ (Builtin.Int.intBits i : Int) * j ≤ 2 ^ 27) ∧ Q (.sh (.int (i ^ j.toNat)))) := rfl
@[simp] theorem v_in_tup : op2B inT x (.tup ts) (c := ⟨QB⟩) = ((x.isD = true ∧ x.flat = true ∧ ts.all (fun z => z.isD && z.flat) = true) ∧ QB (ts.any fun z => PyData.eqv z.d x.d)) := rfl
@[simp] theorem v_in_lst : op2B inT x (.lst ts) (c := ⟨QB⟩) = ((x.isD = true ∧ T.isDs ts = true ∧ x.d.depth ≤ 64 ∧ PyData.depthAll (T.ds ts) ≤ 63) ∧ QB (ts.any fun z => PyData.eqv z.d x.d)) := rfl
@[simp] theorem v_is_nn : op2B isNT .non .non (c := ⟨QB⟩) = QB true := rfl
@[simp] theorem v_is_bn (k : Bool) : op2B isNT (.bl k) .non (c := ⟨QB⟩) = QB false := rfl
@[simp] theorem v_is_in : op2B isNT (.int i) .non (c := ⟨QB⟩) = QB false := rfl
@[simp] theorem v_is_sn : op2B isNT (.str s) .non (c := ⟨QB⟩) = QB false := rfl
@[simp] theorem v_is_tn : op2B isNT (.tup xs) .non (c := ⟨QB⟩) = QB false := rfl
@[simp] theorem v_is_ln : op2B isNT (.lst xs) .non (c := ⟨QB⟩) = QB false := rfl
@[simp] theorem v_ix_tup : op2E ixT (.tup ts) (.int i) (c := ⟨Q⟩) = optE (atI ts i) (c := ⟨fun t => Q (.sh t)⟩) := by
  unfold op2E optE
  dsimp only [ixT]
  cases atI ts i <;> rfl
@[simp] theorem v_ix_lst : op2E ixT (.lst ts) (.int i) (c := ⟨Q⟩) = optE (atI ts i) (c := ⟨fun t => Q (.sh t)⟩) := by
  unfold op2E optE
  dsimp only [ixT]
  cases atI ts i <;> rfl
@[simp] theorem v_ix_ktp : op2E ixT (.ktp ts) (.int i) (c := ⟨Q⟩) = optE (atI ts i) (c := ⟨fun t => Q (.sh t)⟩) := by
  unfold op2E optE
  dsimp only [ixT]
  cases atI ts i <;> rfl
@[simp] theorem v_sl_tup (lo hi : Option Int) : sliE (.tup ts) lo hi (c := ⟨Q⟩) = Q (.sh (.tup (cutL ts lo hi))) := rfl
@[simp] theorem v_sl_lst (lo hi : Option Int) : sliE (.lst ts) lo hi (c := ⟨Q⟩) = Q (.lst ((cutL ts lo hi).map .sh)) := rfl
@[simp] theorem v_rev_tup : op1E revAT (.tup ts) (c := ⟨Q⟩) = Q (.sh (.tup ts.reverse)) := rfl
@[simp] theorem v_rev_lst : op1E revAT (.lst ts) (c := ⟨Q⟩) = Q (.lst (ts.reverse.map .sh)) := rfl
@[simp] theorem v_len_tup : op1E lenT (.tup ts) (c := ⟨Q⟩) = Q (.sh (.int ts.length)) := rfl
@[simp] theorem v_len_lst : op1E lenT (.lst ts) (c := ⟨Q⟩) = Q (.sh (.int ts.length)) := rfl
@[simp] theorem v_len_str : op1E lenT (.str s) (c := ⟨Q⟩) = (s.length ≤ sizeLine ∧ Q (.sh (.int s.length))) := rfl
@[simp] theorem v_abs_i : op1E absT (.int i) (c := ⟨Q⟩) = Q (.sh (.int (if i < 0 then -i else i))) := rfl
@[simp] theorem v_toInt_i : op1E toIntT (.int i) (c := ⟨Q⟩) = Q (.sh (.int i)) := rfl
@[simp] theorem v_toInt_b (k : Bool) : op1E toIntT (.bl k) (c := ⟨Q⟩) = Q (.sh (.int (if k then 1 else 0))) := rfl
@[simp] theorem v_max_ii : op2E maxT (.int i) (.int j) (c := ⟨Q⟩) = Q (.sh (.int (if j > i then j else i))) := rfl
@[simp] theorem v_min_ii : op2E minT (.int i) (.int j) (c := ⟨Q⟩) = Q (.sh (.int (if j < i then j else i))) := rfl
@[simp] theorem v_list_t : op1E listT (.tup ts) (c := ⟨Q⟩) = Q (.lst (ts.map .sh)) := rfl
@[simp] theorem v_list_l : op1E listT (.lst ts) (c := ⟨Q⟩) = Q (.lst (ts.map .sh)) := rfl
@[simp] theorem v_tuple_l : op1E tupleT (.lst ts) (c := ⟨Q⟩) = Q (.sh (.tup ts)) := rfl
@[simp] theorem v_tuple_t : op1E tupleT (.tup ts) (c := ⟨Q⟩) = Q (.sh (.tup ts)) := rfl
@[simp] theorem v_tru_n : truE .non (c := ⟨QB⟩) = QB false := rfl
@[simp] theorem v_tru_b (k : Bool) : truE (.bl k) (c := ⟨QB⟩) = QB k := rfl
@[simp] theorem v_tru_i : truE (.int i) (c := ⟨QB⟩) = QB (i != 0) := rfl
@[simp] theorem v_tru_t : truE (.tup ts) (c := ⟨QB⟩) = QB (!ts.isEmpty) := rfl
@[simp] theorem v_tru_l : truE (.lst ts) (c := ⟨QB⟩) = QB (!ts.isEmpty) := rfl
@[simp] theorem v_cmp (f : Int → Int → Bool) : op2B (intT f) (.int i) (.int j) (c := ⟨QB⟩) = QB (f i j) := rfl
@[simp] theorem v_eqT : op2B eqT x t (c := ⟨QB⟩) = ((x.isD = true ∧ t.isD = true ∧ x.d.depth ≤ 64 ∧ t.d.depth ≤ 64) ∧ QB (PyData.eqv x.d t.d)) := rfl
@[simp] theorem v_neT : op2B neT x t (c := ⟨QB⟩) = ((x.isD = true ∧ t.isD = true ∧ x.d.depth ≤ 64 ∧ t.d.depth ≤ 64) ∧ QB (!PyData.eqv x.d t.d)) := rfl
@[simp] theorem v_notNT : op2B notNT x t (c := ⟨QB⟩) = op2B isNT x t (c := ⟨fun b => QB (!b)⟩) := rfl
@[simp] theorem v_notInT : op2B notInT x t (c := ⟨QB⟩) = op2B inT x t (c := ⟨fun b => QB (!b)⟩) := rfl
@[simp] theorem v_gB (g : T → T → (Bool → Prop) → Prop) : op2E (gB g) x t (c := ⟨Q⟩) = op2B g x t (c := ⟨fun b => Q (.sh (.bl b))⟩) := rfl
@[simp] theorem v_un1 (f : T → (O → Prop) → Prop) : opLE (un1 f) [t] (c := ⟨Q⟩) = op1E f t (c := ⟨Q⟩) := rfl
@[simp] theorem v_un2 (f : T → T → (O → Prop) → Prop) : opLE (un2 f) [x, t] (c := ⟨Q⟩) = op2E f x t (c := ⟨Q⟩) := rfl
@[simp] theorem v_bools (f : List Bool → Bool) : op1E (boolsT f) (.lst ts) (c := ⟨Q⟩) = optE (T.bls ts) (c := ⟨fun bs => Q (.sh (.bl (f bs)))⟩) := by
  unfold op1E optE
  dsimp only [boolsT]
  cases T.bls ts <;> rfl
end
section
variable {ρ : R} {K : O → R → Prop} {KB : Bool → R → Prop} {KA : List O → R → Prop} {KO : Option Int → R → Prop} {KI : List T → R → Prop} {Z : ZC} {a b c x : XE} {y : XA} {s u : XS} {D : ED} {p q : XT} {l h : XO} {g : XG} {gs : XGs} {o : O} {os : List O} {kr : R → Prop} {i j n : Nat}
@[simp ↓] theorem w_x2 (g : T → T → (O → Prop) → Prop) : x2 g a b ρ K Z = a ρ (fun oa ρ1 => b ρ1 (fun ob ρ2 => op2E g oa.t ob.t (c := ⟨fun o => K o ρ2⟩)) Z) Z := rfl
@[simp ↓] theorem w_x2T (g : T → T → (Bool → Prop) → Prop) : x2T g a b ρ KB Z = a ρ (fun oa ρ1 => b ρ1 (fun ob ρ2 => op2B g oa.t ob.t (c := ⟨fun o => KB o ρ2⟩)) Z) Z := rfl
@[simp ↓] theorem w_xName : xName i ρ K Z = slE ρ[i]? (c := ⟨fun o => nameE o ρ i (c := ⟨K⟩)⟩) := by
  unfold xName slE nameE
  cases ρ[i]? with
  | none => rfl
  | some r => cases r with
    | none => rfl
    | some o => cases o <;> rfl
@[simp ↓] theorem w_xMov : xMov i ρ K Z = slE ρ[i]? (c := ⟨fun o => onR (ρ.set i none) (c := ⟨K o⟩)⟩) := by
  unfold xMov slE onR
  cases ρ[i]? with
  | none => rfl
  | some r => cases r <;> rfl
@[simp ↓] theorem w_xC (t : T) : xC t ρ K Z = K (.sh t) ρ := rfl
@[simp ↓] theorem w_xNil : xNil ρ KA Z = KA [] ρ := rfl
@[simp ↓] theorem w_xCons : xCons x y ρ KA Z = x ρ (fun o ρ1 => y ρ1 (fun os ρ2 => KA (o :: os) ρ2) Z) Z := rfl
@[simp ↓] theorem w_xLst : xLst y ρ K Z = y ρ (fun os ρ' => os.length ≤ sizeLine ∧ K (.lst os) ρ') Z := rfl
@[simp ↓] theorem w_xTup : xTup y ρ K Z = y ρ (fun os ρ' => os.length ≤ sizeLine ∧ onT (.tup (O.ts os)) (c := ⟨fun t => K (.sh t) ρ'⟩)) Z := rfl
@[simp ↓] theorem w_xB (g : List T → (O → Prop) → Prop) : xB g y ρ K Z = y ρ (fun os ρ' => opLE g (O.ts os) (c := ⟨fun o => K o ρ'⟩)) Z := rfl
@[simp ↓] theorem w_xTru : xTru x ρ KB Z = x ρ (fun o ρ' => truE o.t (c := ⟨fun b => KB b ρ'⟩)) Z := rfl
@[simp ↓] theorem w_xAnd : xAnd p q ρ KB Z = p ρ (fun c ρ1 => brE c (c := ⟨(q ρ1 KB Z, KB false ρ1)⟩)) Z := rfl
@[simp ↓] theorem w_xOr : xOr p q ρ KB Z = p ρ (fun c ρ1 => brE c (c := ⟨(KB true ρ1, q ρ1 KB Z)⟩)) Z := rfl
@[simp ↓] theorem w_xNot : xNot p ρ KB Z = p ρ (fun c ρ1 => KB (!c) ρ1) Z := rfl
@[simp ↓] theorem w_xBorT : xBorT p ρ KB Z = onR (frzA ρ) (c := ⟨fun r => p r (fun b _ => KB b ρ) fun C fs ts _ => False⟩) := rfl
@[simp ↓] theorem w_xBor : xBor x ρ K Z = onR (frzA ρ) (c := ⟨fun r => x r (fun o _ => o.t.flat = true ∧ K (.sh o.t) ρ) fun C fs ts _ => False⟩) := rfl
@[simp ↓] theorem w_xIf : xIf p a b ρ K Z = p ρ (fun c ρ1 => brE c (c := ⟨(a ρ1 K Z, b ρ1 K Z)⟩)) Z := rfl
@[simp ↓] theorem w_xOrV : xOrV a b ρ K Z = a ρ (fun o ρ1 => truE o.t (c := ⟨fun c => brE c (c := ⟨(K o ρ1, b ρ1 K Z)⟩)⟩)) Z := rfl
@[simp ↓] theorem w_xAndV : xAndV a b ρ K Z = a ρ (fun o ρ1 => truE o.t (c := ⟨fun c => brE c (c := ⟨(b ρ1 K Z, K o ρ1)⟩)⟩)) Z := rfl
@[simp ↓] theorem w_xNotV : xNotV a ρ K Z = a ρ (fun o ρ1 => truE o.t (c := ⟨fun c => K (.sh (.bl (!c))) ρ1⟩)) Z := rfl
@[simp ↓] theorem w_xNeg : xNeg a ρ K Z = a ρ (fun o ρ1 => intE o.t (c := ⟨fun i => K (.sh (.int (-i))) ρ1⟩)) Z := rfl
@[simp ↓] theorem w_xNoP : xNoP ρ KO Z = KO none ρ := rfl
@[simp ↓] theorem w_xPart : xPart x ρ KO Z = x ρ (fun o ρ1 => intE o.t (c := ⟨fun i => KO (some i) ρ1⟩)) Z := rfl
@[simp ↓] theorem w_xSl : xSl x l h ρ K Z = x ρ (fun o ρ1 => l ρ1 (fun lo ρ2 => h ρ2 (fun hi ρ3 => sliE o.t lo hi (c := ⟨fun r => K r ρ3⟩)) Z) Z) Z := rfl
@[simp ↓] theorem w_xRevA : xRevA x ρ K Z = x ρ (fun o ρ1 => op1E revAT o.t (c := ⟨fun r => K r ρ1⟩)) Z := rfl
@[simp ↓] theorem w_gN : gN i o ρ kr = onR (ρ.set i (some o)) (c := ⟨kr⟩) := rfl
@[simp ↓] theorem w_gsNil : gsNil os ρ kr = (os = [] ∧ kr ρ) := rfl
@[simp ↓] theorem w_gsCons : gsCons g gs os ρ kr = consE os (c := ⟨fun o r => g o ρ fun ρ1 => gs r ρ1 kr⟩) := by unfold gsCons consE; cases os <;> rfl
@[simp ↓] theorem w_gT : gT n gs o ρ kr = tupE o.t (c := ⟨fun ts => ts.length = n ∧ gs (ts.map .sh) ρ kr⟩) := by unfold gT tupE; cases o.t <;> rfl
@[simp ↓] theorem w_xSeq : xSeq s u D ρ = s { D with nx := u D } ρ := rfl
@[simp ↓] theorem w_xNext : xNext D ρ = D.nx ρ := rfl
@[simp ↓] theorem w_xAsg : xAsg x g D ρ = x ρ (fun o ρ1 => g o ρ1 D.nx) D.ex := rfl
@[simp ↓] theorem w_xExp : xExp x D ρ = x ρ (fun _ ρ1 => D.nx ρ1) D.ex := rfl
@[simp ↓] theorem w_xRet : xRet x D ρ = x ρ D.rt D.ex := rfl
@[simp ↓] theorem w_xRetN : xRetN D ρ = D.rt (.sh .non) ρ := rfl
@[simp ↓] theorem w_xIfS : xIfS p s u D ρ = p ρ (fun b ρ1 => brE b (c := ⟨(s D ρ1, u D ρ1)⟩)) D.ex := rfl
@[simp ↓] theorem w_xYes : xYes ρ KB Z = KB true ρ := rfl
@[simp ↓] theorem w_xApp : xApp j y ρ K Z = (isSL ρ j ∧ y ρ (fun as ρ1 => slE ρ1[j]? (c := ⟨fun c => lstE c (c := ⟨fun os => oneE as (c := ⟨fun o => os.length < sizeLine ∧ onR (ρ1.set j (some (c.re (.lst (os ++ [o]))))) (c := ⟨K (.sh .non)⟩)⟩)⟩)⟩)) Z) := by
  unfold xApp slotL slE lstE oneE putL onR
  congr 1
  congr 1
  funext as ρ1
  cases ρ1[j]? with
  | none => rfl
  | some r => cases r with
    | none => rfl
    | some c =>
      dsimp only
      cases c.un <;> first
        | rfl
        | (cases as with
          | nil => rfl
          | cons o r => cases r <;> rfl)
@[simp ↓] theorem w_xExt : xExt j y ρ K Z = (isSL ρ j ∧ y ρ (fun as ρ1 => slE ρ1[j]? (c := ⟨fun c => lstE c (c := ⟨fun os => oneE as (c := ⟨fun o => lsE o.t (c := ⟨fun ts => os.length + ts.length ≤ sizeLine ∧ onR (ρ1.set j (some (c.re (.lst (os ++ ts.map .sh))))) (c := ⟨K (.sh .non)⟩)⟩)⟩)⟩)⟩)) Z) := by
  unfold xExt slotL slE lstE oneE putL onR lsE
  congr 1
  congr 1
  funext as ρ1
  cases ρ1[j]? with
  | none => rfl
  | some r => cases r with
    | none => rfl
    | some c =>
      dsimp only
      cases c.un <;> first
        | rfl
        | (cases as with
          | nil => rfl
          | cons o r => cases r with
            | nil =>
              dsimp only [O.ts]
              cases o.t <;> rfl
            | cons b r =>
              dsimp only [O.ts]
              cases o.t <;> rfl)
@[simp ↓] theorem w_xPop : xPop j ρ K Z = slE ρ[j]? (c := ⟨fun c => lstE c (c := ⟨fun os => optE os.getLast? (c := ⟨fun o => onR (ρ.set j (some (c.re (.lst os.dropLast)))) (c := ⟨K o⟩)⟩)⟩)⟩) := by
  unfold xPop slotL slE lstE optE putL onR
  cases ρ[j]? with
  | none => rfl
  | some r => cases r with
    | none => rfl
    | some c =>
      dsimp only
      cases c.un <;> first
        | rfl
        | (rename_i os
           dsimp only
           cases os.getLast? <;> rfl)
@[simp ↓] theorem w_xIxN : xIxN j x ρ K Z = ((∃ c, ρ[j]? = some (some c)) ∧ x ρ (fun o ρ1 => slE ρ1[j]? (c := ⟨fun c => lstE c (c := ⟨fun os => intE o.t (c := ⟨fun i => optE (atI os i) (c := ⟨fun oi => shE oi (c := ⟨fun t => K (.sh t) ρ1⟩)⟩)⟩)⟩)⟩)) Z) := by
  unfold xIxN slotL slE lstE intE optE shE
  congr 1
  congr 1
  funext o ρ1
  cases ρ1[j]? with
  | none => rfl
  | some r => cases r with
    | none => rfl
    | some c =>
      dsimp only
      cases c.un <;> first
        | rfl
        | (cases o.t <;> first
            | rfl
            | (rename_i os i
               dsimp only
               cases atI os i with
               | none => rfl
               | some oi => cases oi <;> rfl))
@[simp ↓] theorem w_gIxN : gIxN j x o ρ kr = ((∃ c, ρ[j]? = some (some c)) ∧ x ρ (fun oi ρ1 => slE ρ1[j]? (c := ⟨fun c => lstE c (c := ⟨fun os => intE oi.t (c := ⟨fun i => optE (ixN os.length i) (c := ⟨fun k => onR (ρ1.set j (some (c.re (.lst (os.set k o))))) (c := ⟨kr⟩)⟩)⟩)⟩)⟩)) noZ) := by
  unfold gIxN slotL slE lstE intE optE putL onR
  congr 1
  congr 1
  funext oi ρ1
  cases ρ1[j]? with
  | none => rfl
  | some r => cases r with
    | none => rfl
    | some c =>
      dsimp only
      cases c.un <;> first
        | rfl
        | (cases oi.t <;> first
            | rfl
            | (rename_i os i
               dsimp only
               cases ixN os.length i <;> rfl))
@[simp ↓] theorem w_xCall (g : GT) : xCall g.pf y ρ K Z = y ρ (fun os ρ1 => callE g (O.ts os) (c := ⟨fun o => K o ρ1⟩) (z := ⟨fun C fs ts => Z C fs ts ρ1⟩)) Z := rfl
@[simp ↓] theorem w_xCallI (g : GI) : xCallI j g.pf y ρ K Z = ((∃ c, ρ[j]? = some (some c)) ∧ y ρ (fun os ρ1 => slE ρ1[j]? (c := ⟨fun c => callIE g c.un (O.ts os) (c := ⟨fun o c' => onR (ρ1.set j (some (c.re c'))) (c := ⟨K o⟩)⟩) (z := ⟨fun C fs ts => Z C fs ts (ρ1.set j none)⟩)⟩)) Z) := by
  unfold xCallI slE callIE onR
  congr 1
@[simp ↓] theorem w_xTab (kvs : List (Str × T)) : xTab kvs x ρ K Z = x ρ (fun o ρ1 => strE o.t (c := ⟨fun z => optE (kvs.lookup z) (c := ⟨fun t => K (.sh t) ρ1⟩)⟩)) Z := by
  unfold xTab optE strE
  congr 1
  funext o ρ1
  cases o.t <;> first
    | rfl
    | (rename_i z
       dsimp only
       cases kvs.lookup z <;> rfl)
@[simp ↓] theorem w_xChain (g g' : T → T → (Bool → Prop) → Prop) : xChain g g' a b c ρ K Z = a ρ (fun oa ρ1 => b ρ1 (fun ob ρ2 => op2B g oa.t ob.t (c := ⟨fun k => brE k (c := ⟨(c ρ2 (fun oc ρ3 => op2B g' ob.t oc.t (c := ⟨fun k' => K (.sh (.bl k')) ρ3⟩)) Z, K (.sh (.bl false)) ρ2)⟩)⟩)) Z) Z := rfl
@[simp ↓] theorem w_xChainT (g g' : T → T → (Bool → Prop) → Prop) : xChainT g g' a b c ρ KB Z = a ρ (fun oa ρ1 => b ρ1 (fun ob ρ2 => op2B g oa.t ob.t (c := ⟨fun k => brE k (c := ⟨(c ρ2 (fun oc ρ3 => op2B g' ob.t oc.t (c := ⟨fun k' => KB k' ρ3⟩)) Z, KB false ρ2)⟩)⟩)) Z) Z := rfl
@[simp ↓] theorem w_xListRg : xListRg x ρ K Z = x ρ (fun o ρ1 => intE o.t (c := ⟨fun n => -(2 ^ 62) ≤ n ∧ n ≤ 2 ^ 24 ∧ K (.lst ((rangeL 0 n.toNat).map .sh)) ρ1⟩)) Z := by
  unfold xListRg intE
  congr 1
@[simp ↓] theorem w_xRaise (C : Addr) (f : Str) : xRaise C f y D ρ = y ρ (fun os ρ1 => oneE os (c := ⟨fun o => D.ex C [f] [o.t] ρ1⟩)) D.ex := by
  unfold xRaise oneE
  congr 1
  funext os ρ1
  cases os with
  | nil => rfl
  | cons o r => cases r <;> rfl
@[simp ↓] theorem w_xWhile : xWhile p s D ρ = whE p s ρ (c := ⟨D⟩) := rfl
@[simp ↓] theorem w_xFor {it : XI} : xFor it g s D ρ = foE it g s ρ (c := ⟨D⟩) := rfl
@[simp ↓] theorem w_xLc {it : XI} {own : List Nat} : xLc it g p x own ρ K Z = lcE it g p x own ρ (c := ⟨K⟩) (z := ⟨Z⟩) := rfl
end
@[simp] theorem isEmpty_snoc {α : Type} (l : List α) (a : α) : (l ++ [a]).isEmpty = false := by cases l <;> rfl
@[simp] theorem ots_map {α : Type} (l : List α) (f : α → O) : O.ts (l.map f) = l.map fun a => (f a).t := by rw [O.ts_map, List.map_map]; rfl
@[simp] theorem ots_rev (l : List O) : O.ts l.reverse = (O.ts l).reverse := by rw [O.ts_map, O.ts_map, List.map_reverse]
end TL
namespace TL
open PySem PySem.Spec PyProof.Rows L2
def seqE (t : T) [c : Kb (List T → Prop)] : Prop := match t with
  | .lst ts => c.k ts
  | .kls ts => c.k ts
  | .tup ts => c.k ts
  | .ktp ts => c.k ts
  | _ => False
section
variable {ρ : R} {K : O → R → Prop} {KI : List T → R → Prop} {Z : ZC} {x : XE} {y : XA} {s : XS} {D : ED} {p : XT} {g : XG} {it : XI} {ts : List T} {i j : Int} {z : Str} {f : List T → Prop} {own : List Nat}
@[simp] theorem seqE_l : seqE (.lst ts) (c := ⟨f⟩) = f ts := rfl
@[simp] theorem seqE_t : seqE (.tup ts) (c := ⟨f⟩) = f ts := rfl
@[simp] theorem seqE_k : seqE (.ktp ts) (c := ⟨f⟩) = f ts := rfl
@[simp] theorem its_l : T.its (.lst ts) = some ts := rfl
@[simp] theorem its_t : T.its (.tup ts) = some ts := rfl
@[simp] theorem its_k : T.its (.ktp ts) = some ts := rfl
@[simp ↓] theorem w_xSeqI : xSeqI x ρ KI Z = x ρ (fun o ρ1 => optE o.t.its (c := ⟨fun ts => KI ts ρ1⟩)) Z := by
  unfold xSeqI optE
  congr 1
  funext o ρ1
  cases o.t.its <;> rfl
@[simp ↓] theorem w_xRng1 : xRng1 y ρ KI Z = y ρ (fun os ρ1 => oneE os (c := ⟨fun o => intE o.t (c := ⟨fun j => (-(2 ^ 62) ≤ j ∧ j < 2 ^ 62) ∧ KI (rangeL 0 j.toNat) ρ1⟩)⟩)) Z := by
  unfold xRng1 oneE intE
  congr 1
  funext os ρ1
  cases os with
  | nil => rfl
  | cons o r =>
    cases r with
    | nil =>
      dsimp only [O.ts]
      cases o.t <;> rfl
    | cons b r =>
      dsimp only [O.ts]
      cases o.t <;> rfl
@[simp ↓] theorem w_xRng2 : xRng2 y ρ KI Z = y ρ (fun os ρ1 => consE os (c := ⟨fun a r => oneE r (c := ⟨fun b => intE a.t (c := ⟨fun i => intE b.t (c := ⟨fun j => (-(2 ^ 62) ≤ i ∧ i < 2 ^ 62 ∧ -(2 ^ 62) ≤ j ∧ j < 2 ^ 62) ∧ KI (rangeL i (j - i).toNat) ρ1⟩)⟩)⟩)⟩)) Z := by
  unfold xRng2 consE oneE intE
  congr 1
  funext os ρ1
  cases os with
  | nil => rfl
  | cons o r =>
    cases r with
    | nil =>
      dsimp only [O.ts]
      cases o.t <;> rfl
    | cons b r =>
      cases r with
      | nil =>
        dsimp only [O.ts]
        cases o.t <;> first
          | rfl
          | (cases b.t <;> rfl)
      | cons c r =>
        dsimp only [O.ts]
        cases o.t <;> first
          | rfl
          | (cases b.t <;> rfl)
@[simp ↓] theorem w_xEnumA : xEnumA y ρ KI Z = y ρ (fun os ρ1 => oneE os (c := ⟨fun o => seqE o.t (c := ⟨fun ts => KI (enumL 0 ts) ρ1⟩)⟩)) Z := by
  unfold xEnumA oneE seqE
  congr 1
  funext os ρ1
  cases os with
  | nil => rfl
  | cons o r =>
    cases r with
    | nil =>
      dsimp only [O.ts]
      cases o.t <;> rfl
    | cons b r =>
      dsimp only [O.ts]
      cases o.t <;> rfl
/-- while -/
theorem whI (I : Nat → R → Prop) (h0 : ∃ m, I m ρ) (h : ∀ m ρ, I m ρ → p ρ (fun k ρ1 => brE k (c := ⟨(s { D with nx := fun ρ' => ∃ m', m' < m ∧ I m' ρ', ct := fun ρ' => ∃ m', m' < m ∧ I m' ρ', bk := D.nx } ρ1, D.nx ρ1)⟩)) D.ex) : whE p s ρ (c := ⟨D⟩) := ⟨I, h0, h⟩
/-- for, the items are ts -/
def foGo (g : XG) (s : XS) (ts : List T) (ρ : R) [c : Kb ED] : Prop := ∃ I : Nat → R → Prop, I 0 ρ ∧ (∀ i t ρ, ts[i]? = some t → I i ρ → g (.sh t) ρ fun ρ2 => s { c.k with nx := I (i + 1), ct := I (i + 1), bk := c.k.nx } ρ2) ∧ ∀ ρ, I ts.length ρ → c.k.nx ρ
theorem foI (h : it ρ (fun ts ρ1 => foGo g s ts ρ1 (c := ⟨D⟩)) D.ex) : foE it g s ρ (c := ⟨D⟩) := h
theorem forI (I : Nat → R → Prop) (h0 : I 0 ρ) (h : ∀ i t ρ, ts[i]? = some t → I i ρ → g (.sh t) ρ fun ρ2 => s { D with nx := I (i + 1), ct := I (i + 1), bk := D.nx } ρ2) (h1 : ∀ ρ, I ts.length ρ → D.nx ρ) : foGo g s ts ρ (c := ⟨D⟩) := ⟨I, h0, h, h1⟩
/-- a comprehension, the items are ts -/
def lcGo (g : XG) (p : XT) (x : XE) (own : List Nat) (ts : List T) (ρ : R) [c : Kb (O → R → Prop)] : Prop := ∃ I : Nat → List O → R → Prop, I 0 [] (wipeR ρ own) ∧
  (∀ i t acc ρ, ts[i]? = some t → I i acc ρ → g (.sh t) ρ fun ρ2 => p ρ2 (fun b ρ3 => if b = true then x ρ3 (fun o ρ4 => acc.length < sizeLine ∧ I (i + 1) (acc ++ [o]) (wipeR ρ4 own)) noZ else I (i + 1) acc (wipeR ρ3 own)) noZ) ∧
  ∀ acc ρ, I ts.length acc ρ → c.k (.lst acc) ρ
theorem lcI (h : it ρ (fun ts ρ1 => lcGo g p x own ts ρ1 (c := ⟨K⟩)) Z) : lcE it g p x own ρ (c := ⟨K⟩) (z := ⟨Z⟩) := h
theorem compI (I : Nat → List O → R → Prop) (h0 : I 0 [] (wipeR ρ own))
    (h : ∀ i t acc ρ, ts[i]? = some t → I i acc ρ → g (.sh t) ρ fun ρ2 => p ρ2 (fun b ρ3 => brE b (c := ⟨(x ρ3 (fun o ρ4 => acc.length < sizeLine ∧ onR (wipeR ρ4 own) (c := ⟨I (i + 1) (acc ++ [o])⟩)) noZ, onR (wipeR ρ3 own) (c := ⟨I (i + 1) acc⟩))⟩)) noZ)
    (h1 : ∀ acc ρ, I ts.length acc ρ → K (.lst acc) ρ) : lcGo g p x own ts ρ (c := ⟨K⟩) := ⟨I, h0, h, h1⟩
/-- each item through f, the slots stand -/
theorem compMap {f : T → O} {ρ1 : R} (hw : wipeR ρ own = ρ1) (hl : ts.length ≤ sizeLine) (hK : K (.lst (ts.map f)) ρ1)
    (h : ∀ t ∈ ts, ∀ C : R → Prop, ∀ E : O → R → Prop, (∀ ρ4, wipeR ρ4 own = ρ1 → E (f t) ρ4) → g (.sh t) ρ1 fun ρ2 => p ρ2 (fun b ρ3 => brE b (c := ⟨(x ρ3 E noZ, C ρ3)⟩)) noZ) : lcGo g p x own ts ρ (c := ⟨K⟩) := by
  refine compI (fun i acc r => r = ρ1 ∧ acc = (ts.take i).map f) ⟨hw, by simp⟩ (fun i t acc r ht hi => ?_) fun acc r hi => ?_
  · obtain ⟨rfl, rfl⟩ := hi
    have hlt := (List.getElem?_eq_some_iff.mp ht).1
    refine h t (List.mem_of_getElem? ht) (fun r => onR (wipeR r own) (c := ⟨_⟩)) _ fun ρ4 h4 => ⟨by rw [List.length_map, List.length_take]; omega, h4, ?_⟩
    rw [List.take_add_one, ht, List.map_append]
    rfl
  · obtain ⟨rfl, rfl⟩ := hi
    rw [List.take_length]
    exact hK
end
end TL
namespace TL
open PySem PySem.Spec PyProof.Rows L2
section
variable {K : PySem.W.Frag} {B Wd H S : Hp} {os os' inner : List O} {vs vs' : List V} {f : List Addr}
theorem Smo.re (h : Smo K B Wd os vs H) (r : ∀ S f, Owns K H S os vs f → ∃ f', Owns K H S os' vs' f' ∧ f.Perm f') : Smo K B Wd os' vs' H := by
  obtain ⟨S, f, h1, h2, h3, h4, h5, h6, h7⟩ := h
  obtain ⟨f', o, p⟩ := r S f h4
  exact ⟨S, f', h1, h2, h3, o, p.nodup_iff.mp h5, fun a ha => h6 a (p.mem_iff.mpr ha), h7⟩
/-- the k-th item stands apart, its address is left -/
theorem Owns.out : ∀ {os : List O} {vs : List V} {f : List Addr} {k : Nat}, Owns K H S os vs f → os[k]? = some (.lst inner) →
    ∃ b ivs fi f', vs[k]? = some (.ref b) ∧ H b = some (.lst ivs) ∧ Owns K H S inner ivs fi ∧ Owns K H S (os.set k (.sh (.adr (.ref b)))) vs f' ∧ f.Perm (b :: fi ++ f')
  | [], _, _, _, _, e => by simp at e
  | o :: os, vs, f, 0, h, e => by
    obtain ⟨v, r, f1, f2, rfl, h1, h2, rfl⟩ := h
    simp at e
    subst e
    obtain ⟨b, ivs, fq, rfl, hb, hi, rfl⟩ := h1
    exact ⟨b, ivs, fq, f2, rfl, hb, hi, ⟨.ref b, r, [], f2, rfl, ⟨rfl, rfl⟩, h2, rfl⟩, List.Perm.refl _⟩
  | o :: os, vs, f, k + 1, h, e => by
    obtain ⟨v, r, f1, f2, rfl, h1, h2, rfl⟩ := h
    simp at e
    obtain ⟨b, ivs, fi, f', q1, q2, q3, q4, q5⟩ := Owns.out h2 e
    refine ⟨b, ivs, fi, f1 ++ f', by simpa using q1, q2, q3, ⟨v, r, f1, f', rfl, h1, q4, rfl⟩, ?_⟩
    refine (List.Perm.append_left f1 q5).trans ?_
    rw [← List.append_assoc, ← List.append_assoc]
    exact List.Perm.append_right f' List.perm_append_comm
/-- and back again -/
theorem Owns.back : ∀ {os : List O} {vs : List V} {f : List Addr} {k : Nat} {b : Addr} {ivs : List V} {fi : List Addr}, Owns K H S (os.set k (.sh (.adr (.ref b)))) vs f → k < os.length → H b = some (.lst ivs) → Owns K H S inner ivs fi →
    ∃ f', Owns K H S (os.set k (.lst inner)) vs f' ∧ (b :: fi ++ f).Perm f'
  | [], _, _, _, _, _, _, _, hk, _, _ => by simp at hk
  | o :: os, vs, f, 0, b, ivs, fi, h, _, hb, hi => by
    obtain ⟨v, r, f1, f2, rfl, ⟨rfl, h1⟩, h2, rfl⟩ := h
    have ev : v = .ref b := h1
    subst ev
    exact ⟨b :: fi ++ f, ⟨.ref b, r, b :: fi, f, rfl, ⟨b, ivs, fi, rfl, hb, hi, rfl⟩, h2, rfl⟩, List.Perm.refl _⟩
  | o :: os, vs, f, k + 1, b, ivs, fi, h, hk, hb, hi => by
    obtain ⟨v, r, f1, f2, rfl, h1, h2, rfl⟩ := h
    obtain ⟨f', q1, q2⟩ := Owns.back (os := os) h2 (by simpa using hk) hb hi
    refine ⟨f1 ++ f', ⟨v, r, f1, f', rfl, h1, q1, rfl⟩, ?_⟩
    refine List.Perm.trans ?_ (List.Perm.append_left f1 q2)
    rw [← List.append_assoc, ← List.append_assoc]
    exact List.Perm.append_right f2 List.perm_append_comm
end
end TL
namespace TL
open PySem PySem.Spec PyProof.Rows L2
def xRowApp (j r m : Nat) (x : XE) (rest : XS) : XS := fun D ρ => (∃ c, ρ[j]? = some (some c)) ∧ x ρ (fun oi ρ1 => match slotL ρ1 j, oi.t, ρ1[m]? with
  | some (c, os), .int i, some (some (.sh t)) => (match ixN os.length i with
    | some k => (match os[k]? with
      | some (.lst inner) => inner.length < sizeLine ∧ r < ρ1.length ∧ rest D ((ρ1.set j (some (c.re (.lst (os.set k (.lst (inner ++ [.sh t]))))))).set r none)
      | _ => False)
    | none => False)
  | _, _, _ => False) D.ex
section
variable {K : PySem.W.Frag} {B Wd H : Hp} {os inner : List O} {fr ρ : R} {frv σ : L2.St} {c : O} {t : T} {j m r k : Nat}
end
section
variable {X : Cx} {W : L2.WX} {e b : Expr} {rest : List Stmt} {xb : XE} {xr : XS} {pos pos2 p p2 p3 p4 p5 apos cpos : Pos} {n nr nm : Str}
end
end TL
namespace TL
open PySem PySem.Spec PyProof.Rows L2
namespace Rd
/-- _law_mixed: slots 0 number -/
def x__law_mixed : XS := xSeq (xAsg (x2 modT (xB ((un1 toIntT)) (xCons (x2 addT (x2 mulT (xName 0) (xC (.int 7046029254386353))) (xC (.int 1442695040888963))) (xNil))) (xC (.int 2305843009213693951))) (gN 0)) (xSeq (xAsg (x2 modT (xB ((un1 toIntT)) (xCons (x2 addT (x2 mulT (xName 0) (xName 0)) (x2 divT (xName 0) (xC (.int 1073741824)))) (xNil))) (xC (.int 2305843009213693951))) (gN 0)) (xSeq (xAsg (x2 modT (xB ((un1 toIntT)) (xCons (x2 addT (x2 mulT (x2 modT (xB ((un1 toIntT)) (xCons (xName 0) (xNil))) (xC (.int 1073741824))) (xC (.int 2147483659))) (x2 divT (xName 0) (xC (.int 1073741824)))) (xNil))) (xC (.int 2305843009213693951))) (gN 0)) (xRet (x2 modT (xB ((un1 toIntT)) (xCons (x2 addT (x2 mulT (xName 0) (xC (.int 4768777513237033))) (x2 divT (xName 0) (xC (.int 536870912)))) (xNil))) (xC (.int 2305843009213693951))))))
/-- _law_store: slots 0 script, 1 cells, 2 cell, 3 base -/
def x__law_store (g__law_mixed : PF) : XS := xSeq (xAsg (xLc (xSeqI (xSl (xName 0) (xNoP) (xPart (xC (.int 63))))) (gN 2) (xYes) (xB ((un1 toIntT)) (xCons (xName 2) (xNil))) [2]) (gN 1)) (xSeq (xAsg (x2 addT (xC (.int 1000003)) (xB ((un1 lenT)) (xCons (xName 1) (xNil)))) (gN 3)) (xSeq (xFor (xSeqI (xName 1)) (gN 2) (xAsg (xCall g__law_mixed (xCons (x2 addT (x2 mulT (xName 3) (xC (.int 3))) (x2 modT (xB ((un1 toIntT)) (xCons (xName 2) (xNil))) (xC (.int 2305843009213693921)))) (xNil))) (gN 3))) (xRet (xLst (xCons (xName 1) (xCons (xC (.int 0)) (xCons (xC (.int 0)) (xCons (xC (.int 0)) (xCons (xC (.int 0)) (xCons (xName 3) (xCons (xC (.int 0)) (xNil))))))))))))
/-- _law_advance: slots 0 store, 1 cell -/
def x__law_advance : XS := xSeq (xAsg (xB ((un1 absT)) (xCons (x2 ixT (xIxN 0 (xC (.int 0))) (xIxN 0 (xC (.int 1)))) (xNil))) (gN 1)) (xSeq (xAsg (x2 modT (xB ((un1 toIntT)) (xCons (x2 ixT (xIxN 0 (xC (.int 0))) (xIxN 0 (xC (.int 1)))) (xNil))) (xC (.int 2305843009213693921))) (gIxN 0 (xC (.int 6)))) (xSeq (xAsg (x2 addT (xIxN 0 (xC (.int 1))) (xC (.int 1))) (gIxN 0 (xC (.int 1)))) (xSeq (xAsg (xC (.int 0)) (gIxN 0 (xC (.int 2)))) (xSeq (xAsg (xC (.int 4)) (gIxN 0 (xC (.int 3)))) (xIfS (x2T (intT fun i j => decide (j ≤ i)) (xName 1) (x2 powT (xC (.int 10)) (xC (.int 18)))) (xSeq (xAsg (x2 modT (xB ((un1 toIntT)) (xCons (xName 1) (xNil))) (x2 powT (x2 powT (xC (.int 10)) (xC (.int 60))) (xC (.int 7)))) (gIxN 0 (xC (.int 2)))) (xAsg (xC (.int 60)) (gIxN 0 (xC (.int 3))))) (xNext))))))
/-- _law_take: slots 0 store, 1 many, 2 number, 3 salt -/
def x__law_take (g__law_advance : IF) (g__law_mixed : PF) : XS := xSeq (xIfS (x2T (intT fun i j => decide (i < j)) (xName 1) (xC (.int 2))) (xRet (xC (.int 0))) (xNext)) (xSeq (xIfS (xBorT (xAnd (x2T eqT (x2 ixT (xName 0) (xC (.int 3))) (xC (.int 0))) (x2T (intT fun i j => decide (i < j)) (x2 ixT (xName 0) (xC (.int 1))) (xB ((un1 lenT)) (xCons (x2 ixT (xName 0) (xC (.int 0))) (xNil)))))) (xExp (xCallI 0 g__law_advance (xNil))) (xNext)) (xSeq (xAsg (x2 addT (xIxN 0 (xC (.int 4))) (xC (.int 1))) (gIxN 0 (xC (.int 4)))) (xSeq (xAsg (xB ((un1 toIntT)) (xCons (xIxN 0 (xC (.int 2))) (xNil))) (gN 2)) (xSeq (xIfS (xBorT (x2T eqT (x2 ixT (xName 0) (xC (.int 3))) (xC (.int 0)))) (xSeq (xAsg (xC (.int 0)) (gN 2)) (xAsg (xC (.int 0)) (gIxN 0 (xC (.int 6))))) (xAsg (x2 subT (xIxN 0 (xC (.int 3))) (xC (.int 1))) (gIxN 0 (xC (.int 3))))) (xSeq (xIfS (x2T (intT fun i j => decide (j < i)) (xName 2) (xC (.int 0))) (xSeq (xAsg (x2 divT (xName 2) (xName 1)) (gIxN 0 (xC (.int 2)))) (xSeq (xIfS (xBorT (x2T eqT (x2 ixT (xName 0) (xC (.int 2))) (xC (.int 0)))) (xAsg (xC (.int 0)) (gIxN 0 (xC (.int 3)))) (xNext)) (xRet (x2 modT (xB ((un1 toIntT)) (xCons (xName 2) (xNil))) (xName 1))))) (xNext)) (xSeq (xAsg (xIxN 0 (xC (.int 6))) (gN 3)) (xRet (x2 modT (xB ((un1 toIntT)) (xCons (xCall g__law_mixed (xCons (x2 addT (xCall g__law_mixed (xCons (x2 addT (x2 addT (xIxN 0 (xC (.int 5))) (x2 mulT (xName 3) (xC (.int 3)))) (x2 mulT (xIxN 0 (xC (.int 4))) (xC (.int 104729)))) (xNil))) (xName 3)) (xNil))) (xNil))) (xName 1)))))))))
/-- _law_pick: slots 0 store, 1 things -/
def x__law_pick (g__law_take : IF) : XS := xRet (x2 ixT (xName 1) (xCallI 0 g__law_take (xCons (xB ((un1 lenT)) (xCons (xName 1) (xNil))) (xNil))))
/-- _law_amount: slots 0 store, 1 low, 2 high, 3 way -/
def x__law_amount (g__law_take : IF) : XS := xSeq (xIfS (x2T (intT fun i j => decide (i ≤ j)) (xName 2) (xName 1)) (xRet (xName 1)) (xNext)) (xSeq (xAsg (xCallI 0 g__law_take (xCons (xC (.int 6)) (xNil))) (gN 3)) (xSeq (xIfS (x2T eqT (xName 3) (xC (.int 0))) (xRet (xName 1)) (xNext)) (xSeq (xIfS (x2T eqT (xName 3) (xC (.int 1))) (xRet (xName 2)) (xNext)) (xRet (x2 addT (xName 1) (xCallI 0 g__law_take (xCons (x2 addT (x2 subT (xName 2) (xName 1)) (xC (.int 1))) (xNil))))))))
/-- _law_letters: slots 0 store, 1 many, 2 out, 3 turn -/
def x__law_letters (g__law_take : IF) : XS := xSeq (xAsg (xC (.str "")) (gN 2)) (xSeq (xFor (xRng1 (xCons (xName 1) (xNil))) (gN 3) (xAsg (x2 addT (xName 2) (x2 ixT (xC (.str "abcdefghijklmnopqrstuvwxyz")) (xCallI 0 g__law_take (xCons (xC (.int 26)) (xNil))))) (gN 2))) (xRet (xName 2)))
/-- _law_leaf: slots 0 store, 1 kinds, 2 many -/
def x__law_leaf (g__law_take : IF) (g__law_pick : IF) : XS := xSeq (xIfS (xAnd (x2T (intT fun i j => decide (j < i)) (xName 2) (xC (.int 0))) (xOr (x2T eqT (xB ((un1 lenT)) (xCons (xName 1) (xNil))) (xC (.int 0))) (x2T eqT (xCallI 0 g__law_take (xCons (xC (.int 2)) (xNil))) (xC (.int 0))))) (xRet (xTup (xCons (xC (.str "var")) (xCons (xCallI 0 g__law_take (xCons (xName 2) (xNil))) (xNil))))) (xNext)) (xRet (xTup (xCons (xC (.str "kind")) (xCons (xCallI 0 g__law_pick (xCons (xName 1) (xNil))) (xNil)))))
/-- _law_form: slots 0 store, 1 kinds, 2 many, 3 steps, 4 stack, 5 turn, 6 way, 7 two -/
def x__law_form (g__law_take : IF) (g__law_leaf : IF) (g__law_pick : IF) : XS := xSeq (xAsg (xLst (xNil)) (gN 4)) (xSeq (xFor (xRng1 (xCons (xB ((un2 maxT)) (xCons (xC (.int 1)) (xCons (xB ((un1 toIntT)) (xCons (xName 3) (xNil))) (xNil)))) (xNil))) (gN 5) (xSeq (xAsg (xC (.int 0)) (gN 6)) (xSeq (xIfS (xBorT (x2T (intT fun i j => decide (j < i)) (xB ((un1 lenT)) (xCons (xName 4) (xNil))) (xC (.int 0)))) (xAsg (xCallI 0 g__law_take (xCons (xC (.int 5)) (xNil))) (gN 6)) (xNext)) (xIfS (xBorT (xOr (x2T (intT fun i j => decide (i < j)) (xName 6) (xC (.int 2))) (xAnd (x2T (intT fun i j => decide (i < j)) (xName 6) (xC (.int 4))) (x2T (intT fun i j => decide (i < j)) (xB ((un1 lenT)) (xCons (xName 4) (xNil))) (xC (.int 2)))))) (xExp (xApp 4 (xCons (xCallI 0 g__law_leaf (xCons (xName 1) (xCons (xName 2) (xNil)))) (xNil)))) (xIfS (x2T eqT (xName 6) (xC (.int 4))) (xExp (xApp 4 (xCons (xTup (xCons (xC (.str "seal")) (xCons (xPop 4) (xNil)))) (xNil)))) (xSeq (xAsg (xPop 4) (gN 7)) (xExp (xApp 4 (xCons (xTup (xCons (x2 ixT (xLst (xCons (xC (.str "fn")) (xCons (xC (.str "pair")) (xNil)))) (x2 subT (xName 6) (xC (.int 2)))) (xCons (xPop 4) (xCons (xName 7) (xNil))))) (xNil)))))))))) (xSeq (xFor (xRng1 (xCons (x2 subT (xBor (xB ((un1 lenT)) (xCons (xName 4) (xNil)))) (xC (.int 1))) (xNil))) (gN 5) (xSeq (xAsg (xPop 4) (gN 7)) (xExp (xApp 4 (xCons (xTup (xCons (xCallI 0 g__law_pick (xCons (xLst (xCons (xC (.str "fn")) (xCons (xC (.str "pair")) (xNil)))) (xNil))) (xCons (xPop 4) (xCons (xName 7) (xNil))))) (xNil)))))) (xRet (xIxN 4 (xC (.int 0))))))
/-- _law_same: slots 0 one, 1 two, 2 todo, 3 turn, 4 a, 5 b, 6 k -/
def x__law_same : XS := xSeq (xAsg (xLst (xCons (xTup (xCons (xName 0) (xCons (xName 1) (xNil)))) (xNil))) (gN 2)) (xSeq (xFor (xRng1 (xCons (xC (.int 300000)) (xNil))) (gN 3) (xSeq (xIfS (xBorT (x2T eqT (xB ((un1 lenT)) (xCons (xName 2) (xNil))) (xC (.int 0)))) (xRet (xC (.bl true))) (xNext)) (xSeq (xAsg (xPop 2) (gT 2 (gsCons (gN 4) (gsCons (gN 5) (gsNil))))) (xIfS (xOr (x2T isNT (xName 4) (xC .non)) (x2T isNT (xName 5) (xC .non))) (xIfS (xOr (x2T notNT (xName 4) (xC .non)) (x2T notNT (xName 5) (xC .non))) (xRet (xC (.bl false))) (xNext)) (xIfS (xTru (xIsi [.list, .tuple] (xName 4))) (xSeq (xIfS (xOr (xNot (xTru (xIsi [.list, .tuple] (xName 5)))) (xOr (x2T neT (xIsi [.list] (xName 4)) (xIsi [.list] (xName 5))) (x2T neT (xB ((un1 lenT)) (xCons (xName 4) (xNil))) (xB ((un1 lenT)) (xCons (xName 5) (xNil)))))) (xRet (xC (.bl false))) (xNext)) (xFor (xRng1 (xCons (xB ((un1 lenT)) (xCons (xName 4) (xNil))) (xNil))) (gN 6) (xExp (xApp 2 (xCons (xTup (xCons (x2 ixT (xName 4) (xName 6)) (xCons (x2 ixT (xName 5) (xName 6)) (xNil)))) (xNil)))))) (xIfS (xTru (xIsi [.str] (xName 4))) (xIfS (xOr (xNot (xTru (xIsi [.str] (xName 5)))) (x2T neT (xName 4) (xName 5))) (xRet (xC (.bl false))) (xNext)) (xIfS (xTru (xIsi [.int] (xName 4))) (xIfS (xOr (xNot (xTru (xIsi [.int] (xName 5)))) (xOr (x2T neT (xIsi [.bool] (xName 4)) (xIsi [.bool] (xName 5))) (x2T neT (xName 4) (xName 5)))) (xRet (xC (.bl false))) (xNext)) (xRet (xC (.bl false)))))))))) (xRet (xC (.bl false))))
end Rd
end TL
set_option maxHeartbeats 2000000
namespace TL
open PySem PySem.Spec PyProof.Rows L2
namespace Rd
def shortS (s : Str) : Bool := PyData.strOk s && decide (s.length ≤ 1000)
/-- a text that is plain and short -/
def sOk (s : Str) : Prop := PyData.strOk s = true ∧ s.length ≤ 1000
theorem sOk.sh {s : Str} (h : sOk s) : shortS s = true := by
  unfold shortS
  simp [h.1, h.2]
theorem sOk_lit (s : String) (h : (Str.ofString s).length ≤ 1000 := by decide +kernel) : sOk (Str.ofString s) := ⟨strOk_lit s, h⟩
@[simp] theorem ots_take (l : List O) (n : Nat) : O.ts (l.take n) = (O.ts l).take n := by rw [O.ts_map, O.ts_map, List.map_take]
def g__law_mixed : GT := fun ts K _ => ∃ i : Int, ts = [.int i] ∧ ∀ j : Int, 0 ≤ j → j < 2305843009213693951 → K (.sh (.int j))
theorem cmul_r {i j : Int} (h : -(2 ^ 64) < j) (h2 : j < 2 ^ 64) : CMul i j ∨ CMulW i j := .inl (.inr ⟨h, h2⟩)
theorem pl__law_mixed (ts : List T) (K0 : O → Prop) (Z0 : ZX) (h : g__law_mixed ts K0 Z0) : x__law_mixed (endP K0 Z0) (slots 1 ts) := by
  obtain ⟨i, rfl, hk⟩ := h
  unfold x__law_mixed
  have cd : ∀ i : Int, CDivW i 1073741824 := fun i => ⟨by decide, by decide⟩
  have cd2 : ∀ i : Int, CDivW i 536870912 := fun i => ⟨by decide, by decide⟩
  simp [cd, cd2]
  refine ⟨cmul_r (by decide) (by decide), ?_⟩
  generalize hn : (i * 7046029254386353 + 1442695040888963) % 2305843009213693951 = n
  have n0 : 0 ≤ n := by rw [← hn]; exact Int.emod_nonneg _ (by decide)
  have n1 : n < 2305843009213693951 := by rw [← hn]; exact Int.emod_lt_of_pos _ (by decide)
  refine ⟨cmul_r (by omega) (by omega), cmul_r (by decide) (by decide), cmul_r (by decide) (by decide), ?_⟩
  exact hk _ (Int.emod_nonneg _ (by decide)) (Int.emod_lt_of_pos _ (by decide))
/-- the store -/
def sto (cells : List Int) (p n l c b s : Int) : O := .lst [.sh (.lst (cells.map .int)), .sh (.int p), .sh (.int n), .sh (.int l), .sh (.int c), .sh (.int b), .sh (.int s)]
def StoreOk (o : O) : Prop := ∃ cells p n l c b s, o = sto cells p n l c b s ∧ 0 ≤ p ∧ 0 ≤ n
@[simp] theorem v_sl_kls (ts : List T) (lo hi : Option Int) (Q : O → Prop) : sliE (.kls ts) lo hi (c := ⟨Q⟩) = Q (.lst ((cutL ts lo hi).map .sh)) := rfl
def g__law_store : GT := fun ts K _ => ∃ cells : List Int, ts = [.kls (cells.map .int)] ∧ ∀ o, StoreOk o → K o
theorem pl__law_store (ts : List T) (K0 : O → Prop) (Z0 : ZX) (h : g__law_store ts K0 Z0) : x__law_store g__law_mixed.pf (endP K0 Z0) (slots 4 ts) := by
  obtain ⟨cells, rfl, hk⟩ := h
  unfold x__law_store
  simp
  refine lcI ?_
  simp
  have e63 : cutL (cells.map T.int) none (some 63) = (cells.take 63).map .int := by rw [show (63 : Int) = ((63 : Nat) : Int) from rfl, cutL_to, List.map_take]
  rw [e63]
  refine compMap (f := O.sh) rfl (by simp; omega) ?_ fun t ht C E hE => ?_
  · simp
    refine foI ?_
    simp
    refine forI (fun i ρ => ∃ (b : Int) (x2 : Option O), ρ = [some (.sh (.kls (cells.map .int))), some (.sh (.lst ((cells.take 63).map .int))), x2, some (.sh (.int b))]) ⟨1000003 + ((min 63 cells.length : Nat) : Int), none, by simp⟩ ?_ ?_
    · rintro i u ρ hu ⟨b, x2, rfl⟩
      obtain ⟨c, hc, rfl⟩ : ∃ c : Int, c ∈ cells ∧ .int c = u := by
        have := List.mem_of_mem_take (List.mem_of_getElem? hu)
        obtain ⟨c, hc, e⟩ := List.mem_map.mp this
        exact ⟨c, hc, by simpa using e⟩
      simp
      refine ⟨cmul_r (by decide) (by decide), _, rfl, fun j _ _ => ?_⟩
      simp
    · rintro ρ ⟨b, x2, rfl⟩
      simp
      exact hk _ ⟨cells.take 63, 0, 0, 0, 0, b, 0, by simp [sto], by decide, by decide⟩
  · obtain ⟨c, hc, rfl⟩ := List.mem_map.mp ht
    simp
    exact hE _ rfl
def g__law_advance : GI := fun o ts K _ => ∃ cells p n l c b s, o = sto cells p n l c b s ∧ 0 ≤ p ∧ p < cells.length ∧ ts = [] ∧ ∀ o', StoreOk o' → K (.sh .non) o'
theorem pl__law_advance (v0 : V) (o : O) (ts : List T) (K0 : O → O → Prop) (Z0 : ZX) (h : g__law_advance o ts K0 Z0) : x__law_advance (endI v0 K0 Z0) (some (.io v0 o) :: slots 1 ts) := by
  obtain ⟨cells, p, n, l, c, b, s, rfl, hp, hpl, rfl, hk⟩ := h
  obtain ⟨q, rfl⟩ : ∃ q : Nat, p = q := ⟨p.toNat, by omega⟩
  obtain ⟨x, hx⟩ : ∃ x, cells[q]? = some x := ⟨cells[q], List.getElem?_eq_getElem (by omega)⟩
  unfold x__law_advance
  have i1 : (0 : Int) ≤ 18 ∧ (Builtin.Int.intBits 10 : Int) * 18 ≤ 2 ^ 27 := by decide
  have i2 : (Builtin.Int.intBits 10 : Int) * 18 ≤ 134217728 := by decide
  have i3 : (Builtin.Int.intBits 10 : Int) * 60 ≤ 134217728 := by decide
  have i4 : (Builtin.Int.intBits 1000000000000000000000000000000000000000000000000000000000000 : Int) * 7 ≤ 134217728 := by decide +kernel
  simp [sto, hx, ixN, i2, i3, i4]
  have m0 : ∀ y z : Int, 0 < z → 0 ≤ y % z := fun y z hz => Int.emod_nonneg _ (by omega)
  generalize decide (1000000000000000000 ≤ if x < 0 then -x else x) = bb
  cases bb with
  | true =>
    simp [ixN, i2, i3, i4]
    exact hk _ ⟨cells, q + 1, _, 60, c, b, _, rfl, by omega, m0 _ _ (by decide)⟩
  | false =>
    simp
    exact hk _ ⟨cells, q + 1, 0, 4, c, b, _, rfl, by omega, by decide⟩
/-- the end of _law_take -/
def tk_rest (g__law_mixed : PF) : XS := xSeq (xAsg (x2 addT (xIxN 0 (xC (.int 4))) (xC (.int 1))) (gIxN 0 (xC (.int 4)))) (xSeq (xAsg (xB ((un1 toIntT)) (xCons (xIxN 0 (xC (.int 2))) (xNil))) (gN 2)) (xSeq (xIfS (xBorT (x2T eqT (x2 ixT (xName 0) (xC (.int 3))) (xC (.int 0)))) (xSeq (xAsg (xC (.int 0)) (gN 2)) (xAsg (xC (.int 0)) (gIxN 0 (xC (.int 6))))) (xAsg (x2 subT (xIxN 0 (xC (.int 3))) (xC (.int 1))) (gIxN 0 (xC (.int 3))))) (xSeq (xIfS (x2T (intT fun i j => decide (j < i)) (xName 2) (xC (.int 0))) (xSeq (xAsg (x2 divT (xName 2) (xName 1)) (gIxN 0 (xC (.int 2)))) (xSeq (xIfS (xBorT (x2T eqT (x2 ixT (xName 0) (xC (.int 2))) (xC (.int 0)))) (xAsg (xC (.int 0)) (gIxN 0 (xC (.int 3)))) (xNext)) (xRet (x2 modT (xB ((un1 toIntT)) (xCons (xName 2) (xNil))) (xName 1))))) (xNext)) (xSeq (xAsg (xIxN 0 (xC (.int 6))) (gN 3)) (xRet (x2 modT (xB ((un1 toIntT)) (xCons (xCall g__law_mixed (xCons (x2 addT (xCall g__law_mixed (xCons (x2 addT (x2 addT (xIxN 0 (xC (.int 5))) (x2 mulT (xName 3) (xC (.int 3)))) (x2 mulT (xIxN 0 (xC (.int 4))) (xC (.int 104729)))) (xNil))) (xName 3)) (xNil))) (xNil))) (xName 1)))))))
theorem pl_tk_rest (v0 : V) (K0 : O → O → Prop) (Z0 : ZX) (many : Int) (hm : many < 2 ^ 60) (h2 : ¬ many < 2) (hk : ∀ k o', StoreOk o' → 0 ≤ k → k < many → K0 (.sh (.int k)) o') (cells : List Int) (p n l c b s : Int) (hp : 0 ≤ p) (hn : 0 ≤ n) :
    tk_rest g__law_mixed.pf (endI v0 K0 Z0) [some (.io v0 (sto cells p n l c b s)), some (.sh (.int many)), none, none] := by
  have cd : ∀ i : Int, CDivW i many := fun i => by
    refine ⟨by omega, ?_⟩
    have : many.natAbs < 2 ^ 60 := by omega
    have := Nat.log2_lt (n := many.natAbs) (k := 60) (by omega) |>.mpr this
    omega
  have mp : (0 : Int) < many := by omega
  have mix : ∀ (l' s' : Int), tk_rest g__law_mixed.pf = tk_rest g__law_mixed.pf := fun _ _ => rfl
  unfold tk_rest
  simp [sto, ixN]
  by_cases hl : l = 0
  · simp [hl, ixN]
    refine ⟨cmul_r (by decide) (by decide), cmul_r (by decide) (by decide), _, rfl, fun j j0 j1 => ?_⟩
    simp
    refine ⟨_, rfl, fun k k0 k1 => ?_⟩
    simp [mp]
    exact hk _ _ ⟨cells, p, n, 0, c + 1, b, 0, rfl, hp, hn⟩ (Int.emod_nonneg _ (by omega)) (Int.emod_lt_of_pos _ mp)
  · simp [hl, ixN]
    by_cases n0 : 0 < n
    · simp [n0, cd, ixN]
      by_cases q : n / many = 0
      · simp [q, ixN, mp]
        exact hk _ _ ⟨cells, p, 0, 0, c + 1, b, s, rfl, hp, by decide⟩ (Int.emod_nonneg _ (by omega)) (Int.emod_lt_of_pos _ mp)
      · simp [q, mp]
        exact hk _ _ ⟨cells, p, n / many, l - 1, c + 1, b, s, rfl, hp, Int.ediv_nonneg hn (by omega)⟩ (Int.emod_nonneg _ (by omega)) (Int.emod_lt_of_pos _ mp)
    · simp [n0]
      refine ⟨cmul_r (by decide) (by decide), cmul_r (by decide) (by decide), _, rfl, fun j j0 j1 => ?_⟩
      simp
      refine ⟨_, rfl, fun k k0 k1 => ?_⟩
      simp [mp]
      exact hk _ _ ⟨cells, p, n, l - 1, c + 1, b, s, rfl, hp, hn⟩ (Int.emod_nonneg _ (by omega)) (Int.emod_lt_of_pos _ mp)
def g__law_take : GI := fun o ts K _ => StoreOk o ∧ ∃ many : Int, ts = [.int many] ∧ many < 2 ^ 60 ∧ ∀ k o', StoreOk o' → 0 ≤ k → (k < many ∨ (many < 2 ∧ k = 0)) → K (.sh (.int k)) o'
theorem pl__law_take (v0 : V) (o : O) (ts : List T) (K0 : O → O → Prop) (Z0 : ZX) (h : g__law_take o ts K0 Z0) : x__law_take g__law_advance.pf g__law_mixed.pf (endI v0 K0 Z0) (some (.io v0 o) :: slots 3 ts) := by
  obtain ⟨⟨cells, p, n, l, c, b, s, rfl, hp, hn⟩, many, rfl, hm, hk⟩ := h
  have rest := fun h2 => pl_tk_rest v0 K0 Z0 many hm h2 fun k o' h1 h3 h4 => hk k o' h1 h3 (.inl h4)
  change (xSeq (xIfS (x2T (intT fun i j => decide (i < j)) (xName 1) (xC (.int 2))) (xRet (xC (.int 0))) (xNext)) (xSeq (xIfS (xBorT (xAnd (x2T eqT (x2 ixT (xName 0) (xC (.int 3))) (xC (.int 0))) (x2T (intT fun i j => decide (i < j)) (x2 ixT (xName 0) (xC (.int 1))) (xB ((un1 lenT)) (xCons (x2 ixT (xName 0) (xC (.int 0))) (xNil)))))) (xExp (xCallI 0 g__law_advance.pf (xNil))) (xNext)) (tk_rest g__law_mixed.pf))) (endI v0 K0 Z0) _
  simp [sto]
  by_cases h2 : many < 2
  · simp [h2]
    exact hk 0 _ ⟨cells, p, n, l, c, b, s, rfl, hp, hn⟩ (Int.le_refl _) (.inr ⟨h2, rfl⟩)
  · simp [h2]
    by_cases hl : l = 0
    · simp [hl]
      by_cases hpl : p < cells.length
      · simp [hpl]
        refine ⟨cells, p, n, l, c, b, s, rfl, hp, hpl, rfl, ?_⟩
        rintro o' ⟨cells', p', n', l', c', b', s', rfl, hp', hn'⟩
        simp
        exact rest h2 _ _ _ _ _ _ _ hp' hn'
      · simp [hpl]
        exact rest h2 _ _ _ _ _ _ _ hp hn
    · simp [hl]
      exact rest h2 _ _ _ _ _ _ _ hp hn
end Rd
end TL
set_option maxHeartbeats 2000000
namespace TL
open PySem PySem.Spec PyProof.Rows L2
namespace Rd
@[simp] theorem v_ix_str (z : Str) (i : Int) (Q : O → Prop) : op2E ixT (.str z) (.int i) (c := ⟨Q⟩) = (z.length ≤ sizeLine ∧ optE (atI z.cps.toList i) (c := ⟨fun c => Q (.sh (.str ⟨#[c]⟩))⟩)) := by
  unfold op2E optE
  dsimp only [ixT]
  cases atI z.cps.toList i <;> rfl
/-- a list or a tuple of these trees -/
def isSeq (t : T) (xs : List T) : Prop := t = .lst xs ∨ t = .tup xs
def g__law_pick : GI := fun o ts K _ => StoreOk o ∧ ∃ (t : T) (xs : List T), ts = [t] ∧ isSeq t xs ∧ xs ≠ [] ∧ xs.length ≤ 1000000 ∧ ∀ x ∈ xs, ∀ o', StoreOk o' → K (.sh x) o'
theorem pl__law_pick (v0 : V) (o : O) (ts : List T) (K0 : O → O → Prop) (Z0 : ZX) (h : g__law_pick o ts K0 Z0) : x__law_pick g__law_take.pf (endI v0 K0 Z0) (some (.io v0 o) :: slots 1 ts) := by
  obtain ⟨ho, t, xs, rfl, hs, hne, hl, hk⟩ := h
  have hpos : 0 < xs.length := List.length_pos_iff.mpr hne
  have go : ∀ (k : Int) (o' : O), 0 ≤ k → (k < (xs.length : Int) ∨ ((xs.length : Int) < 2 ∧ k = 0)) → ∃ m x, k = (m : Nat) ∧ xs[m]? = some x ∧ x ∈ xs := fun k o' h0 h1 => by
    have : k.toNat < xs.length := by omega
    exact ⟨k.toNat, xs[k.toNat], by omega, List.getElem?_eq_getElem this, List.getElem_mem this⟩
  have hoc := ho
  obtain ⟨cells, p, n, l, c, b, s, rfl, hp, hn⟩ := hoc
  unfold x__law_pick
  rcases hs with rfl | rfl
  · simp
    refine ⟨ho, _, rfl, by omega, fun k o' ho' h0 h1 => ?_⟩
    obtain ⟨m, x, rfl, hx, hm⟩ := go k o' h0 h1
    simp [hx]
    exact hk x hm o' ho'
  · simp
    refine ⟨ho, _, rfl, by omega, fun k o' ho' h0 h1 => ?_⟩
    obtain ⟨m, x, rfl, hx, hm⟩ := go k o' h0 h1
    simp [hx]
    exact hk x hm o' ho'
def g__law_amount : GI := fun o ts K _ => StoreOk o ∧ ∃ lo hi : Int, ts = [.int lo, .int hi] ∧ hi - lo < 2 ^ 50 ∧ ∀ k o', StoreOk o' → lo ≤ k → (k ≤ hi ∨ k = lo) → K (.sh (.int k)) o'
theorem pl__law_amount (v0 : V) (o : O) (ts : List T) (K0 : O → O → Prop) (Z0 : ZX) (h : g__law_amount o ts K0 Z0) : x__law_amount g__law_take.pf (endI v0 K0 Z0) (some (.io v0 o) :: slots 3 ts) := by
  obtain ⟨ho, lo, hi, rfl, hd, hk⟩ := h
  unfold x__law_amount
  have hoc := ho
  obtain ⟨cells, p, n, l, c, b, s, rfl, hp, hn⟩ := hoc
  simp
  by_cases h1 : hi ≤ lo
  · simp [h1]
    exact hk lo _ ho (Int.le_refl _) (.inr rfl)
  · simp [h1]
    refine ⟨ho, 6, rfl, by decide, fun k o1 ho1 h0 _ => ?_⟩
    simp
    by_cases k0 : k = 0
    · simp [k0]
      exact hk lo _ ho1 (Int.le_refl _) (.inr rfl)
    · simp [k0]
      by_cases k1 : k = 1
      · simp [k1]
        exact hk hi _ ho1 (by omega) (.inl (Int.le_refl _))
      · simp [k1]
        refine ⟨ho1, hi - lo + 1, rfl, by omega, fun m o2 ho2 m0 m1 => ?_⟩
        simp
        exact hk _ _ ho2 (by omega) (.inl (by omega))
mutual
def _root_.TL.T.nn : T → Nat
  | .tup xs => 1 + T.nns xs
  | .lst xs => 1 + T.nns xs
  | _ => 1
def _root_.TL.T.nns : List T → Nat
  | [] => 0
  | x :: xs => T.nn x + T.nns xs
end
@[simp] theorem nn_tup (xs : List T) : T.nn (.tup xs) = 1 + T.nns xs := by simp [T.nn]
@[simp] theorem nn_lst (xs : List T) : T.nn (.lst xs) = 1 + T.nns xs := by simp [T.nn]
@[simp] theorem nn_str (s : Str) : T.nn (.str s) = 1 := by simp [T.nn]
@[simp] theorem nn_int (s : Int) : T.nn (.int s) = 1 := by simp [T.nn]
@[simp] theorem nn_non : T.nn .non = 1 := by simp [T.nn]
@[simp] theorem nn_bl (b : Bool) : T.nn (.bl b) = 1 := by simp [T.nn]
@[simp] theorem nns_nil : T.nns [] = 0 := by simp [T.nns]
@[simp] theorem nns_cons (x : T) (xs : List T) : T.nns (x :: xs) = T.nn x + T.nns xs := by simp [T.nns]
@[simp] theorem nns_app : ∀ xs ys : List T, T.nns (xs ++ ys) = T.nns xs + T.nns ys
  | [], ys => by simp
  | x :: xs, ys => by simp [nns_app xs ys, Nat.add_assoc]
mutual
def _root_.TL.T.pl : T → Bool
  | .non => true
  | .bl _ => true
  | .int _ => true
  | .str x => PyData.strOk x
  | .tup xs => T.pls xs
  | .lst xs => T.pls xs
  | _ => false
def _root_.TL.T.pls : List T → Bool
  | [] => true
  | x :: xs => T.pl x && T.pls xs
end
@[simp] theorem pl_non : T.pl .non = true := by simp [T.pl]
@[simp] theorem pl_bl (b : Bool) : T.pl (.bl b) = true := by simp [T.pl]
@[simp] theorem pl_int (i : Int) : T.pl (.int i) = true := by simp [T.pl]
@[simp] theorem pl_str (s : Str) : T.pl (.str s) = PyData.strOk s := by simp [T.pl]
@[simp] theorem pl_tup (xs : List T) : T.pl (.tup xs) = T.pls xs := by simp [T.pl]
@[simp] theorem pl_lst (xs : List T) : T.pl (.lst xs) = T.pls xs := by simp [T.pl]
@[simp] theorem pls_nil : T.pls [] = true := by simp [T.pls]
@[simp] theorem pls_cons (x : T) (xs : List T) : T.pls (x :: xs) = (T.pl x && T.pls xs) := by simp [T.pls]
mutual
def _root_.TL.T.vw : T → Bool
  | .non => true
  | .bl _ => true
  | .int _ => true
  | .str x => shortS x
  | .tup xs => T.vws xs
  | .lst xs => T.vws xs
  | _ => false
def _root_.TL.T.vws : List T → Bool
  | [] => true
  | x :: xs => T.vw x && T.vws xs
end
@[simp] theorem vw_non : T.vw .non = true := by simp [T.vw]
@[simp] theorem vw_bl (b : Bool) : T.vw (.bl b) = true := by simp [T.vw]
@[simp] theorem vw_int (i : Int) : T.vw (.int i) = true := by simp [T.vw]
@[simp] theorem vw_str (s : Str) : T.vw (.str s) = shortS s := by simp [T.vw]
@[simp] theorem vw_tup (xs : List T) : T.vw (.tup xs) = T.vws xs := by simp [T.vw]
@[simp] theorem vw_lst (xs : List T) : T.vw (.lst xs) = T.vws xs := by simp [T.vw]
@[simp] theorem vws_nil : T.vws [] = true := by simp [T.vws]
@[simp] theorem vws_cons (x : T) (xs : List T) : T.vws (x :: xs) = (T.vw x && T.vws xs) := by simp [T.vws]
theorem vws_iff : ∀ {xs : List T}, T.vws xs = true ↔ ∀ x ∈ xs, x.vw = true
  | [] => by simp
  | x :: xs => by simp [vws_iff (xs := xs)]
@[simp] theorem sh_lit0 : shortS (Str.ofString "kind") = true := (sOk_lit "kind").sh
@[simp] theorem sh_lit1 : shortS (Str.ofString "var") = true := (sOk_lit "var").sh
@[simp] theorem sh_lit2 : shortS (Str.ofString "fn") = true := (sOk_lit "fn").sh
@[simp] theorem sh_lit3 : shortS (Str.ofString "pair") = true := (sOk_lit "pair").sh
@[simp] theorem sh_lit4 : shortS (Str.ofString "seal") = true := (sOk_lit "seal").sh
@[simp] theorem sh_lit5 : shortS (Str.ofString "const") = true := (sOk_lit "const").sh
@[simp] theorem sh_lit6 : shortS (Str.ofString "name") = true := (sOk_lit "name").sh
@[simp] theorem sh_lit7 : shortS (Str.ofString "hole") = true := (sOk_lit "hole").sh
@[simp] theorem sh_lit8 : shortS (Str.ofString "use") = true := (sOk_lit "use").sh
@[simp] theorem sh_lit9 : shortS (Str.ofString "call") = true := (sOk_lit "call").sh
@[simp] theorem sh_lit10 : shortS (Str.ofString "left") = true := (sOk_lit "left").sh
@[simp] theorem sh_lit11 : shortS (Str.ofString "right") = true := (sOk_lit "right").sh
@[simp] theorem sh_lit12 : shortS (Str.ofString "unseal") = true := (sOk_lit "unseal").sh
@[simp] theorem sh_lit13 : shortS (Str.ofString "note") = true := (sOk_lit "note").sh
@[simp] theorem sh_lit14 : shortS (Str.ofString "pick") = true := (sOk_lit "pick").sh
@[simp] theorem sh_lit15 : shortS (Str.ofString "a") = true := (sOk_lit "a").sh
@[simp] theorem sh_lit16 : shortS (Str.ofString "b") = true := (sOk_lit "b").sh
@[simp] theorem sh_lit17 : shortS (Str.ofString "x") = true := (sOk_lit "x").sh
@[simp] theorem sh_lit18 : shortS (Str.ofString "y") = true := (sOk_lit "y").sh
@[simp] theorem sh_lit19 : shortS (Str.ofString "sealed") = true := (sOk_lit "sealed").sh
@[simp] theorem sh_lit20 : shortS (Str.ofString "Left") = true := (sOk_lit "Left").sh
@[simp] theorem sh_lit21 : shortS (Str.ofString "a07") = true := (sOk_lit "a07").sh
@[simp] theorem sh_lit22 : shortS (Str.ofString "b07") = true := (sOk_lit "b07").sh
theorem app_len (a b : Str) : (a ++ b).length = a.length + b.length := by
  show (a.cps ++ b.cps).size = _
  rw [Array.size_append]
  rfl
theorem app_ok {a b : Str} (ha : sOk a) (hb : sOk b) (hl : a.length + b.length ≤ 1000) : sOk (a ++ b) := by
  refine ⟨?_, by rw [app_len]; exact hl⟩
  replace ha := ha.1
  replace hb := hb.1
  unfold PyData.strOk at ha hb ⊢
  show (a.cps ++ b.cps).all _ = true
  rw [Array.all_append, ha, hb]
  rfl
end Rd
end TL
set_option maxHeartbeats 2000000
namespace TL
open PySem PySem.Spec PyProof.Rows L2
namespace Rd
inductive Hd where
  | con (w : Str) | nam (x : Str) | hol | use (w : Str) | fn (x : Str) | app | pr | lft | rgt | sel | uns | note (f : T) | pick (k : Str)
inductive Tm where
  | nd (h : Hd) (ps : List Tm)
def Hd.ar : Hd → Nat
  | .con _ | .nam _ | .hol | .use _ => 0
  | .app | .pr => 2
  | .pick _ => 3
  | _ => 1
def Hd.pre : Hd → List T
  | .con w => [.str "const", .str w]
  | .nam x => [.str "name", .str x]
  | .hol => [.str "hole"]
  | .use w => [.str "use", .str w]
  | .fn x => [.str "fn", .str x]
  | .app => [.str "call"]
  | .pr => [.str "pair"]
  | .lft => [.str "left"]
  | .rgt => [.str "right"]
  | .sel => [.str "seal"]
  | .uns => [.str "unseal"]
  | .note _ => [.str "note"]
  | .pick k => [.str "pick", .str k]
def Hd.post : Hd → List T
  | .note f => [f]
  | _ => []
/-- the law's head -/
def Hd.t (h : Hd) : T := .tup (h.pre ++ h.post)
def Hd.good : Hd → Prop
  | .con w | .nam w | .use w | .fn w | .pick w => sOk w
  | .note f => f.isD = true ∧ f.d.depth ≤ 20 ∧ f.nn ≤ 25 ∧ f.vw = true
  | _ => True
mutual
def Tm.T : Tm → T
  | .nd h ps => .tup (h.pre ++ Tms.T ps ++ h.post)
def Tms.T : List Tm → List TL.T
  | [] => []
  | p :: ps => p.T :: Tms.T ps
end
mutual
def Tm.ok : Tm → Prop
  | .nd h ps => ps.length = h.ar ∧ h.good ∧ Tms.ok ps
def Tms.ok : List Tm → Prop
  | [] => True
  | p :: ps => p.ok ∧ Tms.ok ps
end
mutual
def Tm.sz : Tm → Nat
  | .nd _ ps => 1 + Tms.sz ps
def Tms.sz : List Tm → Nat
  | [] => 0
  | p :: ps => p.sz + Tms.sz ps
end
def Tm.ps : Tm → List Tm
  | .nd _ ps => ps
def Tm.hd : Tm → Hd
  | .nd h _ => h
@[simp] theorem tms_nil : Tms.T [] = [] := rfl
@[simp] theorem tms_cons (p : Tm) (ps : List Tm) : Tms.T (p :: ps) = p.T :: Tms.T ps := rfl
@[simp] theorem tms_len : ∀ ps : List Tm, (Tms.T ps).length = ps.length
  | [] => rfl
  | p :: ps => by simp [tms_len ps]
@[simp] theorem sz_nil : Tms.sz [] = 0 := rfl
@[simp] theorem sz_cons (p : Tm) (ps : List Tm) : Tms.sz (p :: ps) = p.sz + Tms.sz ps := rfl
@[simp] theorem sz_nd (h : Hd) (ps : List Tm) : Tm.sz (.nd h ps) = 1 + Tms.sz ps := rfl
@[simp] theorem ps_nd (h : Hd) (ps : List Tm) : Tm.ps (.nd h ps) = ps := rfl
@[simp] theorem hd_nd (h : Hd) (ps : List Tm) : Tm.hd (.nd h ps) = h := rfl
theorem ok_nd {h : Hd} {ps : List Tm} : Tm.ok (.nd h ps) ↔ ps.length = h.ar ∧ h.good ∧ Tms.ok ps := by rw [Tm.ok]
theorem oks_iff : ∀ {ps : List Tm}, Tms.ok ps ↔ ∀ p ∈ ps, p.ok
  | [] => by simp [Tms.ok]
  | p :: ps => by simp [Tms.ok, oks_iff (ps := ps)]
def Hd.w : Hd → String
  | .con _ => "const"
  | .nam _ => "name"
  | .hol => "hole"
  | .use _ => "use"
  | .fn _ => "fn"
  | .app => "call"
  | .pr => "pair"
  | .lft => "left"
  | .rgt => "right"
  | .sel => "seal"
  | .uns => "unseal"
  | .note _ => "note"
  | .pick _ => "pick"
@[simp] theorem ix_word (h : Hd) (ps : List Tm) (Q : O → Prop) : op2E ixT (Tm.nd h ps).T (.int 0) (c := ⟨Q⟩) = Q (.sh (.str (Str.ofString h.w))) := by
  cases h <;> simp [Tm.T, Hd.pre, Hd.w]
@[simp] theorem ix_fn1 (x : Str) (ps : List Tm) (Q : O → Prop) : op2E ixT (Tm.nd (.fn x) ps).T (.int 1) (c := ⟨Q⟩) = Q (.sh (.str x)) := by simp [Tm.T, Hd.pre]
@[simp] theorem ix_nam1 (x : Str) (ps : List Tm) (Q : O → Prop) : op2E ixT (Tm.nd (.nam x) ps).T (.int 1) (c := ⟨Q⟩) = Q (.sh (.str x)) := by simp [Tm.T, Hd.pre]
theorem w_fn {h : Hd} : h.w = "fn" ↔ ∃ x, h = .fn x := by cases h <;> simp [Hd.w]
end Rd
end TL
set_option maxHeartbeats 2000000
namespace TL
open PySem PySem.Spec PyProof.Rows L2
namespace Rd
abbrev Sc := List (Str × Nat)
def Sc.T : Sc → T
  | [] => .non
  | (x, i) :: r => .tup [.str x, .int (i : Nat), Sc.T r]
abbrev Row := Tm × Nat × Sc
def Row.T (r : Row) : T := .tup [r.1.T, .int (r.2.1 : Nat), r.2.2.T]
def inn : Hd → Nat → Sc → Sc
  | .fn x, n, sc => (x, n) :: sc
  | _, _, sc => sc
mutual
def wk : Tm → Nat → Nat → Sc → List Row
  | .nd h ps, lv, n, sc => (.nd h ps, lv, sc) :: wks ps (lv + 1) (n + 1) (inn h n sc)
def wks : List Tm → Nat → Nat → Sc → List Row
  | [], _, _, _ => []
  | p :: ps, lv, n, sc => wk p lv n sc ++ wks ps lv (n + p.sz) sc
end
def stk : List Row → Nat → List Row
  | [], _ => []
  | (t, lv, sc) :: r, n => wk t lv n sc ++ stk r (n + t.sz)
@[simp] theorem rowT_mk (p : Tm) (lv : Nat) (sc : Sc) : Row.T (p, lv, sc) = .tup [p.T, .int (lv : Nat), sc.T] := rfl
@[simp] theorem hd_at0 (h : Hd) (ps : List Tm) : ∃ w r, (Tm.nd h ps).T = .tup (.str w :: r) := by cases h <;> exact ⟨_, _, rfl⟩
end Rd
end TL
set_option maxHeartbeats 2000000
namespace TL
open PySem PySem.Spec PyProof.Rows L2
namespace Rd
def oI : Option Nat → T
  | none => .non
  | some i => .int (i : Nat)
def oS : Option Str → T
  | none => .non
  | some s => .str s
@[simp] theorem oI_n : oI none = .non := rfl
@[simp] theorem oI_s (i : Nat) : oI (some i) = .int (i : Nat) := rfl
@[simp] theorem oS_n : oS none = .non := rfl
@[simp] theorem oS_s (i : Str) : oS (some i) = .str i := rfl
def Sc.ok (sc : Sc) : Prop := ∀ p ∈ sc, sOk p.1
@[simp] theorem scT_nil : Sc.T [] = .non := rfl
@[simp] theorem scT_cons (x : Str) (i : Nat) (r : Sc) : Sc.T ((x, i) :: r) = .tup [.str x, .int (i : Nat), Sc.T r] := rfl
def free (r : Row) : Bool := match r.1.hd with
  | .nam x => (r.2.2.lookup x).isNone
  | _ => false
def Row.ok (r : Row) : Prop := r.1.ok ∧ r.2.2.ok
def nm (r : Row) : Str := match r.1.hd with
  | .nam x => x
  | _ => ""
def ff (t : Tm) : Option Str := ((wk t 1 0 []).find? free).map nm
end Rd
end TL
set_option maxHeartbeats 2000000
namespace TL
open PySem PySem.Spec PyProof.Rows L2
namespace Rd
@[simp] theorem max_cast (a b : Nat) : (if (b : Int) > (a : Int) then (b : Int) else (a : Int)) = ((max a b : Nat) : Int) := by
  split <;> omega
@[simp] theorem max_cast' (a b : Nat) : (if (a : Int) < (b : Int) then (b : Int) else (a : Int)) = ((max a b : Nat) : Int) := by
  split <;> omega
@[simp] theorem max_cast2 (a b : Nat) : (if a < b then (b : Int) else (a : Int)) = ((max a b : Nat) : Int) := by
  split <;> omega
theorem take_snoc {α : Type} {l : List α} {i : Nat} {a : α} (h : l[i]? = some a) : l.take (i + 1) = l.take i ++ [a] := by rw [List.take_add_one, h]; rfl
def hit (x : Str) (r : Row) : Bool := free r && decide (nm r = x)
def ssF (x : Str) (many : Nat) (d : Nat) (r : Row) : Nat := d + (if hit x r then many else 1)
def ss (t : Tm) (x : Str) (c : Tm) : Nat := (wk t 1 0 []).foldl (ssF x c.sz) 0
end Rd
end TL
set_option maxHeartbeats 2000000
namespace TL
open PySem PySem.Spec PyProof.Rows L2
namespace Rd
mutual
def sub (x : Str) (c : Tm) : Tm → Tm
  | .nd h ps => match h with
    | .nam y => if y = x then c else .nd h ps
    | .fn y => if y = x then .nd h ps else .nd h (subs x c ps)
    | _ => .nd h (subs x c ps)
def subs (x : Str) (c : Tm) : List Tm → List Tm
  | [] => []
  | p :: ps => sub x c p :: subs x c ps
end
mutual
def Tm.dep : Tm → Nat
  | .nd _ ps => 1 + Tms.dep ps
def Tms.dep : List Tm → Nat
  | [] => 0
  | p :: ps => max p.dep (Tms.dep ps)
end
end Rd
end TL
set_option maxHeartbeats 2000000
namespace TL
open PySem PySem.Spec PyProof.Rows L2
namespace Rd
@[simp] theorem ix_wordV (t : Tm) (Q : O → Prop) : op2E ixT t.T (.int 0) (c := ⟨Q⟩) = Q (.sh (.str (Str.ofString t.hd.w))) := by
  obtain ⟨h, ps⟩ := t
  exact ix_word h ps Q
def Hd.isFn : Hd → Bool
  | .fn _ => true
  | _ => false
def Hd.isPr : Hd → Bool
  | .pr => true
  | _ => false
def Hd.isSel : Hd → Bool
  | .sel => true
  | _ => false
@[simp] theorem wd_fn (h : Hd) : decide (h.w = "fn") = h.isFn := by cases h <;> simp [Hd.w, Hd.isFn]
@[simp] theorem wd_pr (h : Hd) : decide (h.w = "pair") = h.isPr := by cases h <;> simp [Hd.w, Hd.isPr]
@[simp] theorem wd_sel (h : Hd) : decide (h.w = "seal") = h.isSel := by cases h <;> simp [Hd.w, Hd.isSel]
def rdx : Tm → Bool
  | .nd (.note _) _ => true
  | .nd .app [a, b] => a.hd.isFn && (ff b).isNone
  | .nd .lft [a] => a.hd.isPr
  | .nd .rgt [a] => a.hd.isPr
  | .nd .uns [a] => a.hd.isSel
  | _ => false
@[simp] theorem ix_ch0 (h : Hd) (hw : h.pre.length = 1) (a : Tm) (ps : List Tm) (Q : O → Prop) : op2E ixT (Tm.nd h (a :: ps)).T (.int 1) (c := ⟨Q⟩) = Q (.sh a.T) := by
  rw [Tm.T]
  match h.pre, hw with
  | [w], _ => simp
@[simp] theorem ix_ch1 (h : Hd) (hw : h.pre.length = 1) (a b : Tm) (ps : List Tm) (Q : O → Prop) : op2E ixT (Tm.nd h (a :: b :: ps)).T (.int 2) (c := ⟨Q⟩) = Q (.sh b.T) := by
  rw [Tm.T]
  match h.pre, hw with
  | [w], _ => simp
@[simp] theorem ix_fn2 (x : Str) (a : Tm) (ps : List Tm) (Q : O → Prop) : op2E ixT (Tm.nd (.fn x) (a :: ps)).T (.int 2) (c := ⟨Q⟩) = Q (.sh a.T) := by simp [Tm.T, Hd.pre]
theorem ok_kids {h : Hd} {ps : List Tm} (ok : (Tm.nd h ps).ok) : ∀ p ∈ ps, p.ok := oks_iff.mp (ok_nd.mp ok).2.2
def root : Tm → Tm
  | .nd (.note _) [a] => a
  | .nd .app [.nd (.fn x) [b], c] => sub x c b
  | .nd .rgt [.nd .pr [_, b]] => b
  | .nd .lft [.nd .pr [a, _]] => a
  | .nd .uns [.nd .sel [a]] => a
  | t => t
/-- what a redex looks like -/
inductive Rdx : Tm → Prop
  | note (f : T) (a : Tm) : Rdx (.nd (.note f) [a])
  | app (x : Str) (b c : Tm) (hc : ff c = none) : Rdx (.nd .app [.nd (.fn x) [b], c])
  | rgt (a b : Tm) : Rdx (.nd .rgt [.nd .pr [a, b]])
  | lft (a b : Tm) : Rdx (.nd .lft [.nd .pr [a, b]])
  | uns (a : Tm) : Rdx (.nd .uns [.nd .sel [a]])
end Rd
end TL
set_option maxHeartbeats 2000000
namespace TL
open PySem PySem.Spec PyProof.Rows L2
namespace Rd
end Rd
end TL
set_option maxHeartbeats 2000000
namespace TL
open PySem PySem.Spec PyProof.Rows L2
namespace Rd
@[simp] theorem ofString_beq (a b : String) : (Str.ofString a == Str.ofString b) = decide (a = b) := by
  rw [Bool.beq_eq_decide_eq]
  simp
def Hd.slots (h : Hd) : List Nat := (List.range h.ar).map fun i => h.pre.length + i
abbrev NR := Tm × Option Nat × Nat × Nat
def NR.T (r : NR) : T := .tup [r.1.T, oI r.2.1, .int (r.2.2.1 : Nat), .int (r.2.2.2 : Nat)]
@[simp] theorem nrT_mk (t : Tm) (p : Option Nat) (d s : Nat) : NR.T (t, p, d, s) = .tup [t.T, oI p, .int (d : Nat), .int (s : Nat)] := rfl
mutual
def nk : Tm → Option Nat → Nat → Nat → Nat → List NR
  | .nd h ps, par, dp, sp, n => (.nd h ps, par, dp, sp) :: nks ps n (dp + 1) h.pre.length (n + 1)
def nks : List Tm → Nat → Nat → Nat → Nat → List NR
  | [], _, _, _, _ => []
  | p :: ps, par, dp, sp, n => nk p (some par) dp sp n ++ nks ps par dp (sp + 1) (n + p.sz)
end
mutual
theorem nk_len : ∀ (t : Tm) (par : Option Nat) (dp sp n : Nat), (nk t par dp sp n).length = t.sz
  | .nd h ps, _, _, _, _ => by simp [nk, nks_len ps]; omega
theorem nks_len : ∀ (ps : List Tm) (par dp sp n : Nat), (nks ps par dp sp n).length = Tms.sz ps
  | [], _, _, _, _ => rfl
  | p :: ps, _, _, _, _ => by simp [nks, nk_len p, nks_len ps]
end
end Rd
end TL
set_option maxHeartbeats 2000000
namespace TL
open PySem PySem.Spec PyProof.Rows L2
namespace Rd
def rows0 (t : Tm) : List NR := nk t none 1 0 0
@[simp] theorem rows0_len (t : Tm) : (rows0 t).length = t.sz := nk_len _ _ _ _ _
end Rd
end TL
set_option maxHeartbeats 2000000
namespace TL
open PySem PySem.Spec PyProof.Rows L2
namespace Rd
mutual
def rep : Tm → Nat → Tm → Tm
  | .nd _ _, 0, o => o
  | .nd h ps, k + 1, o => .nd h (reps ps k o)
def reps : List Tm → Nat → Tm → List Tm
  | [], _, _ => []
  | p :: ps, k, o => if k < p.sz then rep p k o :: ps else p :: reps ps (k - p.sz) o
end
/-- row i stands in rows and has its parent there -/
def UpOk (rows : List NR) (n i : Nat) (u : Tm) (q s : Nat) : Prop := ∃ iq h ps par d' s' j, q = n + iq ∧ iq < i ∧ rows[iq]? = some (.nd h ps, par, d', s') ∧ ps[j]? = some u ∧ s = h.pre.length + j ∧ i = iq + 1 + Tms.sz (ps.take j)
theorem UpOk.left {a b : List NR} {n i q s : Nat} {u : Tm} (h : UpOk a n i u q s) : UpOk (a ++ b) n i u q s := by
  obtain ⟨iq, h, ps, par, d', s', j, e1, e2, e3, e4, e5, e6⟩ := h
  exact ⟨iq, h, ps, par, d', s', j, e1, e2, by rw [List.getElem?_append_left (List.getElem?_eq_some_iff.mp e3).1]; exact e3, e4, e5, e6⟩
theorem UpOk.right {a b : List NR} {n i q s : Nat} {u : Tm} (h : UpOk b (n + a.length) i u q s) : UpOk (a ++ b) n (a.length + i) u q s := by
  obtain ⟨iq, h, ps, par, d', s', j, e1, e2, e3, e4, e5, e6⟩ := h
  exact ⟨a.length + iq, h, ps, par, d', s', j, by omega, by omega, by rw [List.getElem?_append_right (by omega), Nat.add_sub_cancel_left]; exact e3, e4, e5, by omega⟩
end Rd
end TL
set_option maxHeartbeats 2000000
namespace TL
open PySem PySem.Spec PyProof.Rows L2
namespace Rd
theorem dep_pos (t : Tm) : 1 ≤ t.dep := by
  obtain ⟨h, ps⟩ := t
  rw [Tm.dep]
  omega
/-- how deep below level lv -/
def hi (lv k : Nat) : Nat := if k = 0 then 0 else lv - 1 + k
theorem hi_max (lv a b : Nat) : hi lv (max a b) = max (hi lv a) (hi lv b) := by
  unfold hi
  by_cases h1 : a = 0 <;> by_cases h2 : b = 0 <;> simp [h1, h2] <;> (try split) <;> omega
theorem hi_succ {lv : Nat} (k : Nat) (h : 1 ≤ lv) : max lv (hi (lv + 1) k) = lv - 1 + (1 + k) := by
  unfold hi
  split <;> omega
theorem hi_dep {lv : Nat} (t : Tm) : hi lv t.dep = lv - 1 + t.dep := by
  have := dep_pos t
  unfold hi
  rw [if_neg (by omega)]
@[simp] theorem hi_0 (lv : Nat) : hi lv 0 = 0 := rfl
theorem dep_nd (h : Hd) (ps : List Tm) : (Tm.nd h ps).dep = 1 + Tms.dep ps := by rw [Tm.dep]
theorem deps_cons (p : Tm) (ps : List Tm) : Tms.dep (p :: ps) = max p.dep (Tms.dep ps) := by rw [Tms.dep]
@[simp] theorem deps_nil : Tms.dep [] = 0 := by rw [Tms.dep]
mutual
theorem wk_dep : ∀ (t : Tm) (lv n : Nat) (sc : Sc) (d : Nat), 1 ≤ lv → (wk t lv n sc).foldl (fun d r => max d r.2.1) d = max d (hi lv t.dep)
  | .nd h ps, lv, n, sc, d, hl => by
    rw [wk, List.foldl_cons, wks_dep ps _ _ _ _ (by omega), hi_dep, dep_nd, ← hi_succ _ hl, Nat.max_assoc]
theorem wks_dep : ∀ (ps : List Tm) (lv n : Nat) (sc : Sc) (d : Nat), 1 ≤ lv → (wks ps lv n sc).foldl (fun d r => max d r.2.1) d = max d (hi lv (Tms.dep ps))
  | [], lv, n, sc, d, hl => by simp [wks]
  | p :: ps, lv, n, sc, d, hl => by
    rw [wks, List.foldl_append, wk_dep p _ _ _ _ hl, wks_dep ps _ _ _ _ hl, deps_cons, hi_max, Nat.max_assoc]
end
def bnd (h : Hd) (x : Str) : Bool := match h with
  | .fn y => decide (y = x)
  | _ => false
end Rd
end TL
set_option maxHeartbeats 2000000
namespace TL
open PySem PySem.Spec PyProof.Rows L2
namespace Rd
@[simp] theorem sl_nd (h : Hd) (ps : List Tm) (lo hi : Option Int) (Q : O → Prop) : sliE (Tm.nd h ps).T lo hi (c := ⟨Q⟩) = Q (.sh (.tup (cutL (h.pre ++ Tms.T ps ++ h.post) lo hi))) := by
  rw [Tm.T]
  simp
end Rd
end TL
set_option maxHeartbeats 2000000
namespace TL
open PySem PySem.Spec PyProof.Rows L2
namespace Rd
theorem range_at {lo : Int} {n i : Nat} {t : T} (h : (rangeL lo n)[i]? = some t) : t = .int (lo + i) ∧ i < n := by
  unfold rangeL at h
  rw [List.getElem?_map] at h
  cases q : (List.range n)[i]? with
  | none => rw [q] at h; cases h
  | some j =>
    rw [q] at h
    cases h
    obtain ⟨h1, h2⟩ := List.getElem?_eq_some_iff.mp q
    rw [List.getElem_range] at h2
    subst h2
    exact ⟨rfl, by simpa using h1⟩
@[simp] theorem range_len (lo : Int) (n : Nat) : (rangeL lo n).length = n := by simp [rangeL]
theorem abc_at (k : Nat) (hk : k < 26) : ∃ c, ("abcdefghijklmnopqrstuvwxyz" : Str).cps.toList[k]? = some c ∧ c < 0x110000 := by
  have h : ∀ k : Fin 26, ∃ c, ("abcdefghijklmnopqrstuvwxyz" : Str).cps.toList[k.val]? = some c ∧ c < 0x110000 := by
    have : ("abcdefghijklmnopqrstuvwxyz" : Str).cps.toList = [97, 98, 99, 100, 101, 102, 103, 104, 105, 106, 107, 108, 109, 110, 111, 112, 113, 114, 115, 116, 117, 118, 119, 120, 121, 122] := by decide +kernel
    rw [this]
    intro k
    refine ⟨97 + k.val, ?_, by omega⟩
    match k with
    | ⟨k, hk⟩ => exact (show ∀ k < 26, ([97, 98, 99, 100, 101, 102, 103, 104, 105, 106, 107, 108, 109, 110, 111, 112, 113, 114, 115, 116, 117, 118, 119, 120, 121, 122] : List Nat)[k]? = some (97 + k) by decide) k hk
  exact h ⟨k, hk⟩
def g__law_letters : GI := fun o ts K _ => StoreOk o ∧ ∃ many : Int, ts = [.int many] ∧ many ≤ 1000 ∧ -1000 ≤ many ∧ ∀ s o', StoreOk o' → sOk s → (s.length : Int) ≤ max many 0 → K (.sh (.str s)) o'
def Fm (n : Nat) (t : T) : Prop := (t.isD = true ∧ t.vw = true) ∧ t.d.depth ≤ n
def g__law_leaf : GI := fun o ts K _ => StoreOk o ∧ ∃ (xs : List T) (many : Int), ts = [.lst xs, .int many] ∧ 0 ≤ many ∧ many < 2 ^ 50 ∧ xs.length ≤ 1000000 ∧ (xs = [] → 0 < many) ∧ (∀ x ∈ xs, ∃ s, x = .str s ∧ sOk s) ∧ ∀ f o', StoreOk o' → Fm 1 f → f.nn ≤ 3 → K (.sh f) o'
end Rd
end TL
set_option maxHeartbeats 2000000
namespace TL
open PySem PySem.Spec PyProof.Rows L2
namespace Rd
theorem Fm.mono {n m : Nat} {t : T} (h : Fm n t) (hl : n ≤ m) : Fm m t := ⟨h.1, Nat.le_trans h.2 hl⟩
def g__law_form : GI := fun o ts K _ => StoreOk o ∧ ∃ (xs : List T) (many steps : Int), ts = [.lst xs, .int many, .int steps] ∧ 0 ≤ many ∧ many < 2 ^ 50 ∧ xs.length ≤ 1000000 ∧ (xs = [] → 0 < many) ∧ (∀ x ∈ xs, ∃ s, x = .str s ∧ sOk s) ∧ 0 ≤ steps ∧ steps ≤ 9 ∧ ∀ f o', StoreOk o' → Fm 20 f → (f.nn : Int) ≤ 3 + 5 * steps → K (.sh f) o'
theorem list_two {α : Type} {l : List α} (h : 2 ≤ l.length) : ∃ r a b, l = r ++ [a, b] := by
  have h1 : l ≠ [] := by intro z; subst z; simp at h
  obtain ⟨r, b, rfl⟩ := List.eq_nil_or_concat l |>.resolve_left h1
  have h2 : r ≠ [] := by intro z; subst z; simp at h
  obtain ⟨q, a, rfl⟩ := List.eq_nil_or_concat r |>.resolve_left h2
  exact ⟨q, a, b, by simp⟩
theorem list_one {α : Type} {l : List α} (h : 1 ≤ l.length) : ∃ r a, l = r ++ [a] := by
  have h1 : l ≠ [] := by intro z; subst z; simp at h
  obtain ⟨r, b, rfl⟩ := List.eq_nil_or_concat l |>.resolve_left h1
  exact ⟨r, b, by simp⟩
end Rd
end TL
set_option maxHeartbeats 2000000
namespace TL
open PySem PySem.Spec PyProof.Rows L2
namespace Rd
end Rd
end TL
set_option maxHeartbeats 2000000
namespace TL
open PySem PySem.Spec PyProof.Rows L2
namespace Rd
mutual
def Tm.heads : Tm → List Hd
  | .nd h ps => h :: Tms.heads ps
def Tms.heads : List Tm → List Hd
  | [] => []
  | p :: ps => p.heads ++ Tms.heads ps
end
@[simp] theorem heads_nd (h : Hd) (ps : List Tm) : Tm.heads (.nd h ps) = h :: Tms.heads ps := by simp [Tm.heads]
@[simp] theorem heads_nil : Tms.heads [] = [] := by simp [Tms.heads]
@[simp] theorem heads_cons (p : Tm) (ps : List Tm) : Tms.heads (p :: ps) = p.heads ++ Tms.heads ps := by simp [Tms.heads]
theorem heads_app : ∀ ps qs : List Tm, Tms.heads (ps ++ qs) = Tms.heads ps ++ Tms.heads qs
  | [], qs => by simp
  | p :: ps, qs => by simp [heads_app ps qs]
mutual
theorem heads_len : ∀ t : Tm, t.heads.length = t.sz
  | .nd h ps => by
    have := headss_len ps
    simp [Tm.sz]
    omega
theorem headss_len : ∀ ps : List Tm, (Tms.heads ps).length = Tms.sz ps
  | [] => by simp [Tms.sz]
  | p :: ps => by
    have h1 := heads_len p
    have h2 := headss_len ps
    simp [Tms.sz]
    omega
end
theorem toks_take : ∀ (ps : List Tm) (k : Nat), Tms.ok ps → Tms.ok (ps.take k)
  | [], k, h => by simpa using h
  | p :: ps, 0, _ => trivial
  | p :: ps, k + 1, h => ⟨h.1, toks_take ps k h.2⟩
theorem toks_drop : ∀ (ps : List Tm) (k : Nat), Tms.ok ps → Tms.ok (ps.drop k)
  | [], k, h => by simpa using h
  | p :: ps, 0, h => h
  | p :: ps, k + 1, h => toks_drop ps k h.2
/-- with any n terms behind it, out is one term's heads -/
def Wants (out : List Hd) (n : Nat) : Prop := ∀ fs : List Tm, fs.length = n → Tms.ok fs → ∃ t : Tm, t.ok ∧ t.heads = out ++ Tms.heads fs
theorem Wants.nil : Wants [] 1 := fun fs hl ho => by
  match fs, hl, ho with
  | [t], _, ho => exact ⟨t, ho.1, by simp⟩
theorem Wants.step {out : List Hd} {n : Nat} {h : Hd} (w : Wants out (n + 1)) (hg : h.good) : Wants (out ++ [h]) (n + h.ar) := fun fs hl ho => by
  obtain ⟨t, h1, h2⟩ := w (.nd h (fs.take h.ar) :: fs.drop h.ar) (by simp; omega) ⟨⟨by simp; omega, hg, toks_take _ _ ho⟩, toks_drop _ _ ho⟩
  refine ⟨t, h1, ?_⟩
  have e := heads_app (fs.take h.ar) (fs.drop h.ar)
  rw [List.take_append_drop] at e
  rw [h2, e]
  simp
theorem Wants.fin {out : List Hd} (w : Wants out 0) : ∃ t : Tm, t.ok ∧ t.heads = out := by
  obtain ⟨t, h1, h2⟩ := w [] rfl trivial
  exact ⟨t, h1, by simpa using h2⟩
/-- one head per term at most: a row of m heads that wants n terms, closed within m + n -/
theorem Wants.sz {out : List Hd} (w : Wants out 0) : ∃ t : Tm, t.ok ∧ t.heads = out ∧ t.sz = out.length := by
  obtain ⟨t, h1, h2⟩ := w.fin
  exact ⟨t, h1, h2, by rw [← heads_len, h2]⟩
end Rd
end TL
namespace TL
open PySem PySem.Spec PyProof.Rows L2
namespace Rd
def wordsS : List Str := ["fn", "fn", "call", "call", "pair", "left", "right", "seal", "unseal", "note", "pick"]
end Rd
end TL
set_option maxHeartbeats 2000000
namespace TL
open PySem PySem.Spec PyProof.Rows L2
namespace Rd
abbrev words := wordsS
section
variable {v0 : V} {D : ED} {ns cs us ks : List T} {size deep : Nat} {fr : Bool} {o' : O} {hs : List Hd} {td : List O} {x8 : O} {sc : List T} {d i : Nat} {x16 x17 x18 : Option O}
end
end Rd
end TL
set_option maxHeartbeats 2000000
namespace TL
open PySem PySem.Spec PyProof.Rows L2
namespace Rd
/-- numbers of terms in a row, the first at n -/
def kn : Nat → List Tm → List Nat
  | _, [] => []
  | n, p :: ps => n :: kn (n + p.sz) ps
@[simp] theorem kn_len : ∀ (n : Nat) (ps : List Tm), (kn n ps).length = ps.length
  | _, [] => rfl
  | n, p :: ps => by simp [kn, kn_len]
/-- numbers of a node's children; the number behind its last -/
def kidsAt (t : Tm) (m : Nat) : List Nat := match (rows0 t)[m]? with
  | some (.nd _ ps, _) => kn (m + 1) ps
  | none => []
def endAt (t : Tm) (m : Nat) : Nat := match (rows0 t)[m]? with
  | some (u, _) => m + u.sz
  | none => 0
def tend (t : Tm) : List T := (List.range t.sz).map fun m => .int (endAt t m : Nat)
def hdsT (t : Tm) : T := .lst (t.heads.map Hd.t)
@[simp] theorem ix_hd (h : Hd) (Q : O → Prop) : op2E ixT h.t (.int 0) (c := ⟨Q⟩) = Q (.sh (.str (Str.ofString h.w))) := by
  cases h <;> simp [Hd.t, Hd.pre, Hd.post, Hd.w]
def cnt (t : Tm) (F : List (Nat × Nat)) (m : Nat) : Nat := match F.lookup m with
  | some j => j
  | none => (kidsAt t m).length
def kd (t : Tm) (F : List (Nat × Nat)) (n : Nat) : List O := (List.range n).map fun m => .lst (((kidsAt t m).take (cnt t F m)).map fun k => .sh (.int (k : Nat)))
end Rd
end TL
namespace TL
open PySem PySem.Spec PyProof.Rows L2
variable {j r m : Nat} {x : XE} {rest : XS} {D : ED} {ρ : R}
@[simp ↓] theorem w_xRowApp : xRowApp j r m x rest D ρ = ((∃ c, ρ[j]? = some (some c)) ∧ x ρ (fun oi ρ1 => slE ρ1[j]? (c := ⟨fun c => lstE c (c := ⟨fun os => intE oi.t (c := ⟨fun i => slE ρ1[m]? (c := ⟨fun om => shE om (c := ⟨fun t => optE (ixN os.length i) (c := ⟨fun k => optE os[k]? (c := ⟨fun ok => lstE ok (c := ⟨fun inner => ok = .lst inner ∧ inner.length < sizeLine ∧ r < ρ1.length ∧ onR ((ρ1.set j (some (c.re (.lst (os.set k (.lst (inner ++ [.sh t]))))))).set r none) (c := ⟨fun r => rest D r⟩)⟩)⟩)⟩)⟩)⟩)⟩)⟩)⟩)) D.ex) := by
  unfold xRowApp slotL slE lstE intE optE shE onR
  congr 1
  congr 1
  funext o ρ1
  cases ρ1[j]? with
  | none => rfl
  | some q => cases q with
    | none => rfl
    | some c =>
      dsimp only
      cases c.un <;> first
        | rfl
        | (rename_i os
           cases o.t <;> first
            | rfl
            | (rename_i i
               dsimp only
               cases ρ1[m]? with
               | none => rfl
               | some q2 => cases q2 with
                 | none => rfl
                 | some om => cases om <;> first
                    | rfl
                    | (dsimp only
                       cases ixN os.length i with
                       | none => rfl
                       | some k =>
                         dsimp only
                         cases os[k]? with
                         | none => rfl
                         | some ok => cases ok <;> simp [O.un] <;> (rename_i v o; cases o <;> simp))))
end TL
set_option maxHeartbeats 2000000
namespace TL
open PySem PySem.Spec PyProof.Rows L2
namespace Rd
def wt (F : List (Nat × Nat)) : List O := F.reverse.map fun f => .sh (.int (f.1 : Nat))
@[simp] theorem frzA_cons (x : Option O) (r : R) : frzA (x :: r) = (x.map fun o => .sh o.t) :: frzA r := rfl
@[simp] theorem wt_cons (f : Nat × Nat) (F : List (Nat × Nat)) : wt (f :: F) = wt F ++ [.sh (.int (f.1 : Nat))] := by simp [wt]
@[simp] theorem wt_nil : wt [] = [] := rfl
end Rd
end TL
set_option maxHeartbeats 2000000
namespace TL
open PySem PySem.Spec PyProof.Rows L2
namespace Rd
@[simp] theorem ix_hdnam (x : Str) (Q : O → Prop) : op2E ixT (Hd.nam x).t (.int 1) (c := ⟨Q⟩) = Q (.sh (.str x)) := by simp [Hd.t, Hd.pre, Hd.post]
theorem eqv_hd (h : Hd) (x : Str) : PyData.eqv h.t.d (.tuple [.str "fn", .str x]) = bnd h x := by
  cases h <;> simp [Hd.t, Hd.pre, Hd.post, bnd]
theorem bls_map {α : Type} (l : List α) (f : α → Bool) : T.bls (l.map fun a => .bl (f a)) = some (l.map f) := by
  induction l with
  | nil => rfl
  | cons a l ih =>
    show (T.bls (l.map fun a => .bl (f a))).map _ = _
    rw [ih]
    rfl
end Rd
end TL
set_option maxHeartbeats 2000000
namespace TL
open PySem PySem.Spec PyProof.Rows L2
def rng3E (ts : List T) [c : Kb (List T → Prop)] : Prop := match ts with
  | [.int i, .int j, .int (-1)] => (-(2 ^ 62) ≤ i ∧ i < 2 ^ 62 ∧ -(2 ^ 62) ≤ j ∧ j < 2 ^ 62) ∧ c.k (rangeC i (-1) (i - j).toNat)
  | _ => False
@[simp] theorem rng3E_e {i j : Int} {f : List T → Prop} : rng3E [.int i, .int j, .int (-1)] (c := ⟨f⟩) = ((-(2 ^ 62) ≤ i ∧ i < 2 ^ 62 ∧ -(2 ^ 62) ≤ j ∧ j < 2 ^ 62) ∧ f (rangeC i (-1) (i - j).toNat)) := rfl
@[simp ↓] theorem w_xRng3 {y : XA} {ρ : R} {KI : List T → R → Prop} {Z : ZC} : xRng3 y ρ KI Z = y ρ (fun os ρ1 => rng3E (O.ts os) (c := ⟨fun ts => KI ts ρ1⟩)) Z := rfl
theorem rangeC_at {lo : Int} {n i : Nat} {t : T} (h : (rangeC lo (-1) n)[i]? = some t) : t = .int (lo - i) ∧ i < n := by
  unfold rangeC at h
  rw [List.getElem?_map] at h
  cases q : (List.range n)[i]? with
  | none => rw [q] at h; cases h
  | some j =>
    rw [q] at h
    cases h
    obtain ⟨h1, h2⟩ := List.getElem?_eq_some_iff.mp q
    rw [List.getElem_range] at h2
    subst h2
    exact ⟨by show T.int (lo + (i : Int) * -1) = _; rw [show lo + (i : Int) * -1 = lo - i by omega], by simpa using h1⟩
@[simp] theorem rangeC_len (lo : Int) (n : Nat) : (rangeC lo (-1) n).length = n := by simp [rangeC]
namespace Rd
/-- a row that is read the first time or again -/
def RowO (x : O) (l : List T) : Prop := x = .lst (l.map .sh) ∨ x = .sh (.lst l)
theorem nameE_row {x : O} {l : List T} (h : RowO x l) {ρ : R} {i : Nat} (hi : ρ[i]? = some (some x)) (f : O → R → Prop) : nameE x ρ i (c := ⟨f⟩) = f (.sh (.lst l)) (ρ.set i (some (.sh (.lst l)))) := by
  rcases h with rfl | rfl
  · simp
  · have : ρ.set i (some (.sh (.lst l))) = ρ := by
      apply List.ext_getElem?
      intro j
      rw [List.getElem?_set]
      by_cases e : i = j
      · subst e
        rw [if_pos rfl, if_pos (List.getElem?_eq_some_iff.mp hi).1, hi]
      · rw [if_neg e]
    rw [this]
    rfl
end Rd
end TL
set_option maxHeartbeats 4000000
namespace TL
open PySem PySem.Spec PyProof.Rows L2
namespace Rd
/-- a row of the body: the argument's heads for just the names that function k binds -/
def hitK (k : Nat) (r : Row) : Bool := match r.1.hd with
  | .nam y => decide (r.2.2.lookup y = some k)
  | _ => false
def putK (k : Nat) (c : Tm) (r : Row) : List Hd := if hitK k r then c.heads else [r.1.hd]
def rdh (u : Tm) : List Hd := if rdx u = true then (root u).heads else []
end Rd
end TL
set_option maxHeartbeats 4000000
namespace TL
open PySem PySem.Spec PyProof.Rows L2
namespace Rd
@[simp] theorem eqv_ni (j : Int) : PyData.eqv .none (.int j) = false := by unfold PyData.eqv; rfl
end Rd
end TL
set_option maxHeartbeats 4000000
namespace TL
open PySem PySem.Spec PyProof.Rows L2
namespace Rd
/-- what is due -/
def dueL (t : Tm) (n : Nat) (u : Tm) : List T :=
  if rdx u = true then
    if 40 < (rep t n (root u)).dep then [.str "TooDeep", .int 40]
    else if 300 < (rep t n (root u)).sz then [.str "TooBig", .int 300]
    else [.str "answer", (rep t n (root u)).T]
  else [.str "NotThere", .int (n : Nat)]
def g__law_due : GT := fun ts K _ => ∃ (t : Tm) (n : Nat) (u : Tm) (pq : Option Nat) (lv s : Nat), ts = [hdsT t, .lst (tend t), .int (n : Nat), .lst ((rdh u).map Hd.t)] ∧ t.ok ∧ t.sz ≤ 200 ∧ (rows0 t)[n]? = some (u, pq, lv, s) ∧ K (.lst ((dueL t n u).map .sh))
end Rd
end TL
set_option maxHeartbeats 4000000
namespace TL
open PySem PySem.Spec PyProof.Rows L2
def isiE (cs : List Ty7) (t : T) [c : Kb (Bool → Prop)] : Prop := t.tn.isSome = true ∧ c.k (cs.any fun c => t.isTy c)
@[simp ↓] theorem w_xIsi (cs : List Ty7) (x : XE) (ρ : R) (K : O → R → Prop) (Z : ZC) : xIsi cs x ρ K Z = x ρ (fun o ρ' => isiE cs o.t (c := ⟨fun b => K (.sh (.bl b)) ρ'⟩)) Z := rfl
@[simp] theorem isiE_l (cs : List Ty7) (xs : List T) (f : Bool → Prop) : isiE cs (.lst xs) (c := ⟨f⟩) = f (cs.any fun c => (T.lst xs).isTy c) := by unfold isiE; simp [T.tn]
@[simp] theorem isiE_t (cs : List Ty7) (xs : List T) (f : Bool → Prop) : isiE cs (.tup xs) (c := ⟨f⟩) = f (cs.any fun c => (T.tup xs).isTy c) := by unfold isiE; simp [T.tn]
@[simp] theorem isiE_s (cs : List Ty7) (x : Str) (f : Bool → Prop) : isiE cs (.str x) (c := ⟨f⟩) = f (cs.any fun c => (T.str x).isTy c) := by unfold isiE; simp [T.tn]
@[simp] theorem isiE_i (cs : List Ty7) (x : Int) (f : Bool → Prop) : isiE cs (.int x) (c := ⟨f⟩) = f (cs.any fun c => (T.int x).isTy c) := by unfold isiE; simp [T.tn]
@[simp] theorem isiE_b (cs : List Ty7) (x : Bool) (f : Bool → Prop) : isiE cs (.bl x) (c := ⟨f⟩) = f (cs.any fun c => (T.bl x).isTy c) := by unfold isiE; simp [T.tn]
@[simp] theorem eqv_bb (b c : Bool) : PyData.eqv (.bool b) (.bool c) = decide (b = c) := by cases b <;> cases c <;> (unfold PyData.eqv; rfl)
namespace Rd
theorem pls_app (xs ys : List T) : T.pls (xs ++ ys) = (T.pls xs && T.pls ys) := by
  induction xs with
  | nil => simp
  | cons x xs ih => simp [ih, Bool.and_assoc]
theorem nns_len : ∀ xs : List T, xs.length ≤ T.nns xs
  | [] => by simp
  | x :: xs => by
    have := nns_len xs
    have : 1 ≤ x.nn := by cases x <;> simp [T.nn]
    simp
    omega
def g__law_same : GT := fun ts K _ => ∃ a : T, ts = [a, a] ∧ a.pl = true ∧ a.nn < 300000 ∧ K (.sh (.bl true))
def dbl (x : T) : O := .sh (.tup [x, x])
theorem pl__law_same (ts : List T) (K0 : O → Prop) (Z0 : ZX) (h : g__law_same ts K0 Z0) : x__law_same (endP K0 Z0) (TL.slots 7 ts) := by
  obtain ⟨a, rfl, hp, hn, hk⟩ := h
  unfold x__law_same
  simp -implicitDefEqProofs
  refine foI ?_
  simp -implicitDefEqProofs
  refine forI (fun i ρ => ∃ (st : List T) (x3 x4 x5 x6 : Option O), ρ = [some (.sh a), some (.sh a), some (.lst (st.map dbl)), x3, x4, x5, x6] ∧ T.pls st = true ∧ T.nns st + i ≤ a.nn) ⟨[a], none, none, none, none, by simp [dbl], by simpa using hp, by simp⟩ ?_ ?_
  · rintro i u ρ hi ⟨st, x3, x4, x5, x6, rfl, hst, hsn⟩
    obtain ⟨rfl, hilt⟩ := range_at hi
    simp -implicitDefEqProofs
    by_cases e : st = []
    · subst e
      simp -implicitDefEqProofs
      exact hk
    · obtain ⟨st', x, rfl⟩ : ∃ st' x, st = st' ++ [x] := ⟨st.dropLast, st.getLast e, (List.dropLast_concat_getLast e).symm⟩
      rw [pls_app] at hst
      simp at hst hsn
      obtain ⟨hst1, hst2⟩ := hst
      have hstl := nns_len st'
      have hx1 : 1 ≤ x.nn := by cases x <;> simp [T.nn]
      cases x with
      | non =>
        simp -implicitDefEqProofs [dbl, T.isTy]
        exact ⟨st', rfl, hst1, by simp at hsn; omega⟩
      | bl b =>
        simp -implicitDefEqProofs [dbl, T.isTy]
        exact ⟨st', rfl, hst1, by simp at hsn; omega⟩
      | int j =>
        simp -implicitDefEqProofs [dbl, T.isTy]
        exact ⟨st', rfl, hst1, by simp at hsn; omega⟩
      | str s =>
        have hs2 : PyData.strOk s = true := by simpa using hst2
        simp -implicitDefEqProofs [dbl, T.isTy, hs2]
        exact ⟨st', rfl, hst1, by simp at hsn; omega⟩
      | tup xs =>
        have hxs : T.pls xs = true := by simpa using hst2
        have hxl := nns_len xs
        simp at hsn
        simp -implicitDefEqProofs [dbl, T.isTy]
        refine foI ?_
        simp -implicitDefEqProofs
        refine ⟨by omega, ?_⟩
        refine forI (fun j ρ => ∃ x6, ρ = [some (.sh a), some (.sh a), some (.lst ((st' ++ xs.take j).map dbl)), some (.sh (.int (i : Nat))), some (.sh (.tup xs)), some (.sh (.tup xs)), x6]) ⟨_, by simp [dbl]; rfl⟩ ?_ ?_
        · rintro j u ρ hj ⟨x6, rfl⟩
          obtain ⟨rfl, hjlt⟩ := range_at hj
          have hjx : xs[j]? = some xs[j] := List.getElem?_eq_getElem hjlt
          generalize xs[j] = y at hjx
          simp -implicitDefEqProofs [hjx]
          refine ⟨by omega, ?_⟩
          rw [List.take_add_one, List.getElem?_map, hjx]
          simp [dbl]
        · rintro ρ ⟨x6, rfl⟩
          simp -implicitDefEqProofs
          refine ⟨st' ++ xs, by simp, by rw [pls_app, hst1, hxs]; rfl, by rw [nns_app]; omega⟩
      | lst xs =>
        have hxs : T.pls xs = true := by simpa using hst2
        have hxl := nns_len xs
        simp at hsn
        simp -implicitDefEqProofs [dbl, T.isTy]
        refine foI ?_
        simp -implicitDefEqProofs
        refine ⟨by omega, ?_⟩
        refine forI (fun j ρ => ∃ x6, ρ = [some (.sh a), some (.sh a), some (.lst ((st' ++ xs.take j).map dbl)), some (.sh (.int (i : Nat))), some (.sh (.lst xs)), some (.sh (.lst xs)), x6]) ⟨_, by simp [dbl]; rfl⟩ ?_ ?_
        · rintro j u ρ hj ⟨x6, rfl⟩
          obtain ⟨rfl, hjlt⟩ := range_at hj
          have hjx : xs[j]? = some xs[j] := List.getElem?_eq_getElem hjlt
          generalize xs[j] = y at hjx
          simp -implicitDefEqProofs [hjx]
          refine ⟨by omega, ?_⟩
          rw [List.take_add_one, List.getElem?_map, hjx]
          simp [dbl]
        · rintro ρ ⟨x6, rfl⟩
          simp -implicitDefEqProofs
          refine ⟨st' ++ xs, by simp, by rw [pls_app, hst1, hxs]; rfl, by rw [nns_app]; omega⟩
      | _ => simp [T.pl] at hst2
  · rintro ρ ⟨st, x3, x4, x5, x6, rfl, hst, hsn⟩
    simp at hsn
    omega
end Rd
end TL
namespace TL
open PySem PySem.Spec PyProof.Rows L2
def strT (f : List Nat → List Nat → Bool) : T → T → (Bool → Prop) → Prop
  | .str x, .str y, Q => Q (f x.cps.toList y.cps.toList)
  | _, _, _ => False
abbrev lexLe (a b : List Nat) : Bool := !decide (b < a)
def rStr (f : List Nat → List Nat → Bool) : R2 := fun x y H Q => ∃ i j, x = .str i ∧ y = .str j ∧ Q (.bl (f i.cps.toList j.cps.toList)) H
/-- one sign -/
def sgn (x : Str) : Option Nat := match x.cps.toList with
  | [c] => some c
  | _ => none
theorem sgn_e {x : Str} {c : Nat} (h : sgn x = some c) : x = ⟨#[c]⟩ := by
  unfold sgn at h
  obtain ⟨⟨l⟩⟩ := x
  dsimp only at h
  match l, h with
  | [d], h => cases h; rfl
def sgnT (f : Bool → Bool) : T → T → (Bool → Prop) → Prop
  | .str x, .str y, Q => match sgn x with
    | some c => Q (f (decide (c ∈ y.cps.toList)))
    | none => False
  | _, _, _ => False
section
variable {X : Cx}
theorem op_leS : OpR X (compareOp .LtE) (rStr lexLe) := op_le_str
theorem strT_ok {f : List Nat → List Nat → Bool} : Op2 X (rStr f) (gB (strT f)) := by
  intro B Wd H tx ty vx vy K0 Q h g hQ
  obtain ⟨S, h1, h2, rx, ry, back⟩ := h.get2
  cases tx <;> cases ty <;> first
    | exact (show False from g).elim
    | exact ⟨_, _, rx, ry, hQ _ _ _ g (h.flat fun _ => rfl)⟩
def rSgn (f : Bool → Bool) : R2 := fun x y H Q => ∃ (c : Nat) (z : Str), x = .str ⟨#[c]⟩ ∧ y = .str z ∧ Q (.bl (f (decide (c ∈ z.cps.toList)))) H
theorem op_inSg : OpR X (compareOp .In) (rSgn id) := op_in_sign
theorem op_notInSg : OpR X (compareOp .NotIn) (rSgn not) := op_notIn_sign
theorem sgnT_ok {f : Bool → Bool} : Op2 X (rSgn f) (gB (sgnT f)) := by
  intro B Wd H tx ty vx vy K0 Q h g hQ
  obtain ⟨S, h1, h2, rx, ry, back⟩ := h.get2
  cases tx <;> cases ty <;> first
    | exact (show False from g).elim
    | skip
  rename_i x y
  have g' : (match sgn x with
    | some c => K0 (.sh (.bl (f (decide (c ∈ y.cps.toList)))))
    | none => False) := g
  cases e : sgn x with
  | none => rw [e] at g'; exact g'.elim
  | some c =>
    rw [e] at g'
    refine ⟨c, y, ?_, ry, hQ _ _ _ g' (h.flat fun _ => rfl)⟩
    rw [show vx = V.str x from rx, sgn_e e]
def xAug (i : Nat) (f : Int → Int → Int) (x : XE) : XS := fun D ρ => ∃ a : Int, ρ[i]? = some (some (.sh (.int a))) ∧ x ρ (fun o ρ1 => match o.t with
  | .int b => D.nx (ρ1.set i (some (.sh (.int (f a b)))))
  | _ => False) D.ex
end
section
variable {X : Cx} {W : L2.WX} {e : Expr} {pos : Pos} {x : XE}
theorem ps_augAdd (i : Nat) {n : Str} {p1 : Pos} (hN : X.N.Nodup) (he : PEt X W e x) (hi : X.N[i]? = some n := by rfl) (hx : Loc X.env.scope n := by first | exact Or.inl rfl | exact Or.inr rfl)
    (hf : X.fn n = true ∨ X.env.scope.names.lookup n = some .local := by first | exact .inl rfl | exact .inr rfl | assumption) : PSt X W (.AugAssign (.Name n p1) .Add e pos) (xAug i (· + ·) x) := by
  refine PS.imp (L2.ps_aug hN hi hx he in_add hf) fun D σ H ⟨B, Wd, fr, frv, ρ, D0, hl, s, ⟨a, ha, hx⟩, q1, q2, q3, q4, q5⟩ => ?_
  obtain ⟨S, fp, sm⟩ := id s
  obtain ⟨v0, hv0, r0⟩ := sm.own (fr.length + i) _ (by rw [get_app]; exact ha)
  rw [hl, get_app] at hv0
  obtain ⟨_, r1⟩ := r0
  obtain rfl : v0 = V.int a := r1
  refine ⟨_, hv0, B, Wd, fr, frv, ρ, _, _, hl, s, hx, fun o ρ1 v H1 k1 s1 => ?_, q5 σ⟩
  obtain ⟨S2, g1, g2, r2⟩ := s1.rep
  split at k1
  · rename_i b eb
    rw [eb] at r2
    obtain rfl : v = V.int b := r2
    refine ⟨a, b, rfl, rfl, q1 _ _ _ k1 ?_⟩
    exact (s1.drop.push (t := .int (a + b)) (v := V.int (a + b)) fun _ => rfl).setAt hl i
  · exact k1.elim
end
structure TabN (K : PySem.W.Frag) (w : World) (mg : Str → Option Value) (nm : Str) (d : Addr) (kvs : List (Str × T)) : Prop where
  tab : Tab K w mg nm d kvs
  no : ∀ z, kvs.lookup z = none → PySem.W.nsIn K d z = some none
def xInTab (f : Bool → Bool) (kvs : List (Str × T)) (x : XE) : XT := fun ρ K Z => x ρ (fun o ρ1 => match o.t with
  | .str z => K (f (kvs.lookup z).isSome) ρ1
  | _ => False) Z
section
variable {X : Cx} {W : L2.WX} {a e : Expr} {pos p : Pos} {x xa : XE} {n : Str}
end
end TL
namespace TL
open PySem PySem.Spec PyProof.Rows L2
def kvD (kvs : List (Str × Int)) : T := .dic (kvs.map fun q => Sum.inr q.1) (kvs.map fun q => .int q.2)
def kvV (kvs : List (Str × Int)) : List (Key × V) := kvs.map fun q => (Sum.inr q.1, V.int q.2)
def xDisp (kvs : List (Str × Int)) : XE := fun ρ K _ => K (.sh (kvD kvs)) ρ
def getD (t : T) (k : T) (d : T) : Option T := match t, k with
  | .dic ks ts, .str z => some ((lookT ks ts (Sum.inr z)).getD d)
  | _, _ => none
def isDic : T → Bool
  | .dic _ _ => true
  | _ => false
def xDGet2 (x y z : XE) : XE := fun ρ K Z => x ρ (fun o ρ1 => isDic o.t = true ∧ y ρ1 (fun oy ρ2 => z ρ2 (fun oz ρ3 => match getD o.t oy.t oz.t with
  | some t => K (.sh t) ρ3
  | none => False) Z) Z) Z
theorem upd_upd {H : Hp} {p : Addr} {a b : HO} : upd (upd H p a) p b = upd H p b := by
  funext q
  unfold upd
  by_cases e : q = p <;> simp [e]
theorem tPairs_const {K0 : Key × V → Prop} : ∀ (kvs : List (Str × Int)) {σ : L2.St} {H : Hp} {Q : List (V × V) → Hp → Prop}, Q (kvs.map fun q => (V.str q.1, V.int q.2)) H → tPairs (kvs.map fun q => (tC (.str q.1), tC (.int q.2))) σ H Q
  | [], σ, H, Q, h => h
  | q :: kvs, σ, H, Q, h => tPairs_const (K0 := K0) kvs (Q := fun ps H' => Q ((V.str q.1, V.int q.2) :: ps) H') h
theorem reps_kvs {K : PySem.W.Frag} {S : Hp} : ∀ kvs : List (Str × Int), Reps K S (kvs.map fun q => .int q.2) (kvs.map fun q => V.int q.2)
  | [] => rfl
  | q :: kvs => ⟨_, _, rfl, rfl, reps_kvs kvs⟩
theorem zip_kvs : ∀ kvs : List (Str × Int), (kvs.map fun q => (Sum.inr q.1 : Key)).zip (kvs.map fun q => V.int q.2) = kvV kvs
  | [] => rfl
  | q :: kvs => by
    have := zip_kvs kvs
    simp only [kvV, List.map_cons, List.zip_cons_cons] at this ⊢
    rw [this]
section
variable {X : Cx} {W : L2.WX} {a b e o f : Expr} {pos apos cpos : Pos} {x y z : XE}
theorem pe_disp {keys : List (Option Expr)} {values : List Expr} {kvs : List (Str × Int)} (h : PPs X pos keys values (kvs.map fun q => (tC (.str q.1), tC (.int q.2)))) (hm : mergeK [] (kvV kvs) = kvV kvs)
    (hall : keys.all (·.isSome) = true := by rfl) (hl : keys.length = values.length := by rfl) (h0 : keys ≠ [] := by simp) (h15 : keys.length ≤ 15 := by decide) (hkl : kvs.length ≤ 15 := by decide) : PEt X W (.Dict keys values pos) (xDisp kvs) := by
  refine PE.imp (L2.pe_disp h hall hl h0 h15) fun σ H Q ⟨B, Wd, fr, frv, ρ, K0, Z0, hl, s, hx, hK, hZ⟩ => ?_
  intro p hp
  refine tPairs_const (K0 := fun _ => True) kvs ⟨if_pos rfl, kvV kvs, ?_, by simpa [kvV] using hkl, ?_⟩
  · unfold kvV
    rw [List.map_map]
    rfl
  · rw [hm, upd_upd]
    obtain ⟨B', Wd', _, h2, back⟩ := Sim.front (as := []) (va := []) rfl s
    refine hK _ _ _ _ hx (back [_] [_] _ (Smo.newS (ts := []) (t := kvD kvs) h2 hp fun S r e => ?_))
    refine ⟨p, kvs.map (fun q => V.int q.2), rfl, ?_, by simp, reps_kvs kvs⟩
    exact .inl (by rw [e, zip_kvs])
theorem Reps.lookT {K : PySem.W.Frag} {S : Hp} {κ : Type} [DecidableEq κ] {k : κ} : ∀ {ks : List κ} {ts : List T} {vs : List V}, Reps K S ts vs → (∃ t v, TL.lookT ks ts k = some t ∧ (ks.zip vs).lookup k = some v ∧ Rep K S t v) ∨ (TL.lookT ks ts k = none ∧ (ks.zip vs).lookup k = none)
  | [], ts, vs, _ => .inr ⟨by unfold TL.lookT; simp, by simp⟩
  | _ :: _, [], vs, r => by
    have : vs = [] := r
    subst this
    exact .inr ⟨by unfold TL.lookT; simp, by simp⟩
  | c :: ks, t :: ts, vs, r => by
    obtain ⟨v, r2, rfl, h1, h2⟩ := r
    have ih := Reps.lookT (k := k) (ks := ks) h2
    unfold TL.lookT at ih ⊢
    rw [List.zip_cons_cons, List.zip_cons_cons, List.lookup_cons, List.lookup_cons]
    by_cases e : k = c
    · subst e
      simp only [beq_self_eq_true]
      exact .inl ⟨t, v, rfl, rfl, h1⟩
    · rw [show (k == c) = false by simpa using e]
      exact ih
theorem valV_look {κ : Type} [DecidableEq κ] (k : κ) : ∀ l : List (κ × V), valV l k = l.lookup k
  | [] => rfl
  | (a, v) :: l => by
    have ih := valV_look k l
    unfold valV at ih ⊢
    rw [List.find?_cons, List.lookup_cons]
    by_cases e : a = k
    · subst e
      simp
    · rw [show decide (a = k) = false by simpa using e, show (k == a) = false by simpa using fun z => e z.symm]
      exact ih
theorem pe_dget2T (hu : X.A.units + 1 < cLine) (ho : PEt X W o x) (he : PEt X W e y) (hf : PEt X W f z) (m : M2 X o "get" apos e f cpos) : PEt X W (.Call (.Attribute o "get" apos) [e, f] [] cpos) (xDGet2 x y z) := by
  refine PE.imp (L2.pe_dget2 hu ho he hf m) fun σ H Q ⟨B, Wd, fr, frv, ρ, K0, Z0, hl, s, hx, hK, hZ⟩ => ?_
  refine ⟨B, Wd, fr, frv, ρ, _, Z0, hl, s, hx, fun oa ρ1 va H1 k1 s1 => ?_, hZ⟩
  obtain ⟨k0, k1⟩ := k1
  obtain ⟨S1, b1, e1, r1⟩ := s1.rep
  cases hd : oa.t <;> rw [hd] at k0 <;> first
    | cases k0
    | skip
  rename_i ks ts
  rw [hd] at r1
  obtain ⟨p, vs, rfl, hp, hlen, rr⟩ := r1
  refine ⟨p, rfl, .inl ⟨_, Rd.mono e1 hp⟩, B, Wd, some oa :: fr, some (.ref p) :: frv, ρ1, _, Z0, by simp [hl], s1, k1, fun oy ρ2 vy H2 k2 s2 => ?_, hZ.push⟩
  refine ⟨B, Wd, some oy :: some oa :: fr, some vy :: some (.ref p) :: frv, ρ2, _, Z0, by simp [hl], s2, k2, fun oz ρ3 vz H3 k3 s3 => ?_, hZ.push.push⟩
  obtain ⟨B', Wd', _, h3, back⟩ := Sim.front (as := [oz, oy, oa]) (va := [vz, vy, .ref p]) rfl s3
  obtain ⟨S, g1, g2, rs, g4⟩ := Smo.get (ts := [oz.t, oy.t, oa.t]) h3.frz
  obtain ⟨v1, q1, c1, p1, v2, q2, c2, p2, v3, q3, c3, p3, _⟩ := rs
  cases c1
  cases c2
  cases c3
  rw [hd] at k3 p3
  obtain ⟨p', us, ep, hp', hlen', rr'⟩ := p3
  cases ep
  cases hy : oy.t <;> rw [hy] at k3 p2 <;> first
    | exact (show False from k3).elim
    | skip
  rename_i w
  have k3' : K0 (.sh ((TL.lookT ks ts (Sum.inr w)).getD oz.t)) ρ3 := k3
  obtain rfl : vy = V.str w := p2
  have dg : DGet H3 p (V.str w) (valV (ks.zip us) (Sum.inr w)) := dget_kr (k := Sum.inr w) (Rd.mono g2 hp')
  refine ⟨_, dg, ?_⟩
  rw [valV_look]
  rcases Reps.lookT (k := Sum.inr w) (ks := ks) rr' with ⟨t, v, l1, l2, l3⟩ | ⟨l1, l2⟩
  · rw [l2]
    rw [l1] at k3'
    have l4 : Reps X.K S [t] [v] := ⟨v, [], rfl, l3, rfl⟩
    exact hK _ _ _ _ k3' (by simpa using back _ _ _ (g4 [t] [v] l4))
  · rw [l2]
    rw [l1] at k3'
    have l4 : Reps X.K S [oz.t] [vz] := ⟨vz, [], rfl, p1, rfl⟩
    exact hK _ _ _ _ k3' (by simpa using back _ _ _ (g4 [oz.t] [vz] l4))
end
end TL
namespace TL
open PySem PySem.Spec PyProof.Rows L2
def O.at : List Nat → O → Option O
  | [], o => some o
  | k :: ks, .lst os => match os[k]? with
    | some o => O.at ks o
    | none => none
  | _, _ => none
def O.put : List Nat → O → O → O
  | [], _, o' => o'
  | k :: ks, .lst os, o' => match os[k]? with
    | some o => .lst (os.set k (O.put ks o o'))
    | none => .lst os
  | _, o, _ => o
def PathV (H : Hp) : List Nat → V → V → Prop
  | [], v, w => v = w
  | k :: ks, v, w => ∃ a vs u, v = .ref a ∧ H a = some (.lst vs) ∧ vs[k]? = some u ∧ PathV H ks u w
section
variable {K : PySem.W.Frag} {B Wd H S : Hp} {inner : List O}
theorem Owns.cut : ∀ {os : List O} {vs : List V} {f : List Addr} {k : Nat} {o : O}, Owns K H S os vs f → os[k]? = some o → ∃ v fo fr, vs[k]? = some v ∧ Own K H S o v fo ∧ f.Perm (fo ++ fr) ∧
    ∀ o' fo', Own K H S o' v fo' → ∃ f', Owns K H S (os.set k o') vs f' ∧ f'.Perm (fo' ++ fr)
  | [], vs, f, k, o, h, e => by simp at e
  | q :: os, vs, f, 0, o, h, e => by
    obtain ⟨v, r, f1, f2, rfl, h1, h2, rfl⟩ := h
    simp at e
    subst e
    exact ⟨v, f1, f2, rfl, h1, List.Perm.refl _, fun o' fo' h' => ⟨fo' ++ f2, ⟨v, r, fo', f2, rfl, h', h2, rfl⟩, List.Perm.refl _⟩⟩
  | q :: os, vs, f, k + 1, o, h, e => by
    obtain ⟨v, r, f1, f2, rfl, h1, h2, rfl⟩ := h
    obtain ⟨w, fo, fr, e1, e2, e3, e4⟩ := Owns.cut (os := os) h2 (by simpa using e)
    refine ⟨w, fo, f1 ++ fr, by simpa using e1, e2, ?_, fun o' fo' h' => ?_⟩
    · refine (List.Perm.append_left f1 e3).trans ?_
      rw [← List.append_assoc, ← List.append_assoc]
      exact List.Perm.append_right fr List.perm_append_comm
    · obtain ⟨f', g1, g2⟩ := e4 o' fo' h'
      refine ⟨f1 ++ f', ⟨v, r, f1, f', rfl, h1, g1, rfl⟩, (List.Perm.append_left f1 g2).trans ?_⟩
      rw [← List.append_assoc, ← List.append_assoc]
      exact List.Perm.append_right fr List.perm_append_comm
/-- the node at a path, and what is there without it -/
theorem Own.cut : ∀ {p : List Nat} {o on : O} {v : V} {f : List Addr}, Own K H S o v f → o.at p = some on → ∃ w fo fr, PathV H p v w ∧ Own K H S on w fo ∧ f.Perm (fo ++ fr) ∧
    ∀ o' fo', Own K H S o' w fo' → ∃ f', Own K H S (o.put p o') v f' ∧ f'.Perm (fo' ++ fr)
  | [], o, on, v, f, h, e => by
    cases e
    exact ⟨v, f, [], rfl, h, by simp, fun o' fo' h' => ⟨fo', h', by simp⟩⟩
  | k :: ks, .lst os, on, v, f, h, e => by
    obtain ⟨a, vs, fq, rfl, ha, hs, rfl⟩ := h
    unfold O.at at e
    cases q : os[k]? with
    | none => rw [q] at e; cases e
    | some o1 =>
      rw [q] at e
      obtain ⟨v1, fo1, fr1, h1, h2, h3, h4⟩ := Owns.cut hs q
      obtain ⟨w, fo, fr, g1, g2, g3, g4⟩ := Own.cut (p := ks) h2 e
      refine ⟨w, fo, a :: (fr ++ fr1), ⟨a, vs, v1, rfl, ha, h1, g1⟩, g2, ?_, fun o' fo' h' => ?_⟩
      · refine (List.Perm.cons a (h3.trans (List.Perm.append_right fr1 g3))).trans ?_
        rw [List.append_assoc]
        exact List.perm_middle.symm
      · obtain ⟨f1, i1, i2⟩ := g4 o' fo' h'
        obtain ⟨f2, i3, i4⟩ := h4 _ _ i1
        refine ⟨a :: f2, ?_, ?_⟩
        · unfold O.put
          rw [q]
          exact ⟨a, vs, f2, rfl, ha, i3, rfl⟩
        · refine (List.Perm.cons a (i4.trans (List.Perm.append_right fr1 i2))).trans ?_
          rw [List.append_assoc]
          exact List.perm_middle.symm
  | k :: ks, .sh t, on, v, f, h, e => by cases e
  | k :: ks, .dic _ _, on, v, f, h, e => by cases e
  | k :: ks, .dit _ _, on, v, f, h, e => by cases e
  | k :: ks, .ins _ _ _, on, v, f, h, e => by cases e
  | k :: ks, .io _ _, on, v, f, h, e => by cases e
end
end TL
namespace TL
open PySem PySem.Spec PyProof.Rows L2
section
variable {K : PySem.W.Frag} {B Wd H : Hp} {inner : List O} {fr ρ : R} {frv σ : L2.St} {c : O} {t : T} {v : V} {j : Nat} {p : List Nat}
end
/-- x[e].append(y), y a slot's shared tree -/
def xIxApp (j m : Nat) (x : XE) : XE := fun ρ K Z => (∃ c, ρ[j]? = some (some c)) ∧ x ρ (fun oi ρ1 => match slotL ρ1 j, oi.t, ρ1[m]? with
  | some (c, os), .int i, some (some (.sh t)) => (match ixN os.length i with
    | some k => (match os[k]? with
      | some (.lst inner) => inner.length < sizeLine ∧ K (.sh .non) (ρ1.set j (some (c.re (.lst (os.set k (.lst (inner ++ [.sh t])))))))
      | _ => False)
    | none => False)
  | _, _, _ => False) Z
section
variable {X : Cx} {W : L2.WX} {b : Expr} {xb : XE} {p p2 p5 apos cpos : Pos} {n nm : Str}
end
end TL
namespace TL
open PySem PySem.Spec PyProof.Rows L2
section
variable {X : Cx} {W : L2.WX} {pos lp p p1 p2 p3 p4 p5 p6 p7 apos cpos : Pos} {n nr : Str} {i : Int} {k1 k2 : Nat}
end
end TL
namespace TL
open PySem PySem.Spec PyProof.Rows L2
def un3 (f : T → T → T → (O → Prop) → Prop) : List T → (O → Prop) → Prop
  | [t, u, w], Q => f t u w Q
  | _, _ => False
def maxLT : T → (O → Prop) → Prop
  | .lst ts, Q => ∃ ns : List Int, ts = ns.map .int ∧ 0 < ns.length ∧ ∀ m, m ∈ ns → (∀ y, y ∈ ns → y ≤ m) → Q (.sh (.int m))
  | _, _ => False
def min3T : T → T → T → (O → Prop) → Prop
  | .int i, .int j, .int k, Q => Q (.sh (.int (min i (min j k))))
  | _, _, _, _ => False
section
variable {X : Cx}
theorem CallT.three {r : List V → Hp → VK → Prop} {f : T → T → T → (O → Prop) → Prop}
    (h : ∀ B Wd S H t v u w x y K0 Q, Smo X.K B Wd [.sh t, .sh u, .sh x] [v, w, y] H → Rep X.K S t v → Rep X.K S u w → Rep X.K S x y → f t u x K0 → (∀ o v H', K0 o → Smo X.K B Wd [o] [v] H' → Q v H') → r [v, w, y] H Q) : CallT X r (un3 f) := by
  intro B Wd H ts vs K0 Q hs g hQ
  match ts, g with
  | [t, u, x], g =>
    obtain ⟨S, h1, h2, ⟨v, r0, e, h3, w, r1, e1, h4, y, r2, e2, h5, h6⟩, back⟩ := Smo.get (ts := [t, u, x]) hs
    have e0 : r2 = [] := h6
    subst e0
    subst e2
    subst e1
    subst e
    exact h B Wd S H t v u w x y K0 Q hs h3 h4 h5 g hQ
  | [], g => exact (show False from g).elim
  | [_], g => exact (show False from g).elim
  | [_, _], g => exact (show False from g).elim
  | _ :: _ :: _ :: _ :: _, g => exact (show False from g).elim
end
end TL
namespace TL
open PySem PySem.Spec PyProof.Rows L2
section
variable {K : PySem.W.Frag} {B Wd S H : Hp} {ts us : List T} {vs ws xs ys : List V} {a b : Addr}
end
/-- a table's tuple and a tuple -/
def xZipT (y : XA) : XI := fun ρ K Z => y ρ (fun os ρ1 => match O.ts os with
  | [.ktp ts, .tup us] => K (zipL ts us) ρ1
  | _ => False) Z
section
variable {X : Cx} {W : L2.WX} {e : Expr} {y : XA} {pos p : Pos}
end
end TL
namespace TL
open PySem PySem.Spec PyProof.Rows L2
section
variable {i j k : Int} {Q : O → Prop} {QB : Bool → Prop} {s u : Str} {xs ys ts : List T} {t x : T} {c : Nat}
@[simp] theorem v_ix_str : op2E ixT (.str s) (.int i) (c := ⟨Q⟩) = (s.length ≤ sizeLine ∧ optE (atI s.cps.toList i) (c := ⟨fun c => Q (.sh (.str ⟨#[c]⟩))⟩)) := by
  unfold op2E optE
  dsimp only [ixT]
  cases atI s.cps.toList i <;> rfl
@[simp] theorem v_sl_str (lo hi : Option Int) : sliE (.str s) lo hi (c := ⟨Q⟩) = (s.length ≤ sizeLine ∧ Q (.sh (.str (cutS s lo hi)))) := rfl
@[simp] theorem its_s : T.its (.str s) = some (s.cps.toList.map fun c => .str ⟨#[c]⟩) := rfl
@[simp] theorem v_sgn (f : Bool → Bool) : op2B (sgnT f) (.str ⟨#[c]⟩) (.str s) (c := ⟨QB⟩) = QB (f (decide (c ∈ s.cps.toList))) := rfl
theorem lex_l (a c : Nat) : lexLe [a] [c] = decide (a ≤ c) := by
  unfold lexLe
  by_cases h : c < a
  · rw [decide_eq_true (show [c] < [a] from List.Lex.rel h), decide_eq_false (by omega)]; rfl
  · rw [decide_eq_true (p := a ≤ c) (by omega), decide_eq_false]
    · rfl
    · intro q
      have q2 : List.Lex (· < ·) [c] [a] := q
      cases q2 with
      | rel z => exact h z
      | cons z => cases z
@[simp] theorem v_le_a : op2B (strT lexLe) (.str (Str.ofString "a")) (.str ⟨#[c]⟩) (c := ⟨QB⟩) = QB (decide (97 ≤ c)) := by
  rw [← lex_l]; rfl
@[simp] theorem v_le_0 : op2B (strT lexLe) (.str (Str.ofString "0")) (.str ⟨#[c]⟩) (c := ⟨QB⟩) = QB (decide (48 ≤ c)) := by
  rw [← lex_l]; rfl
@[simp] theorem v_le_z : op2B (strT lexLe) (.str ⟨#[c]⟩) (.str (Str.ofString "z")) (c := ⟨QB⟩) = QB (decide (c ≤ 122)) := by
  rw [← lex_l]; rfl
@[simp] theorem v_le_9 : op2B (strT lexLe) (.str ⟨#[c]⟩) (.str (Str.ofString "9")) (c := ⟨QB⟩) = QB (decide (c ≤ 57)) := by
  rw [← lex_l]; rfl
@[simp] theorem v_maxL : op1E maxLT (.lst ts) (c := ⟨Q⟩) = ∃ ns : List Int, ts = ns.map .int ∧ 0 < ns.length ∧ ∀ m, m ∈ ns → (∀ y, y ∈ ns → y ≤ m) → Q (.sh (.int m)) := rfl
@[simp] theorem v_min3 : opLE (un3 min3T) [.int i, .int j, .int k] (c := ⟨Q⟩) = Q (.sh (.int (min i (min j k)))) := rfl
end
section
variable {ρ : R} {K : O → R → Prop} {KB : Bool → R → Prop} {KI : List T → R → Prop} {Z : ZC} {a b x y z : XE} {w : XA} {D : ED} {i j m : Nat}
@[simp ↓] theorem w_xAug (f : Int → Int → Int) : xAug i f x D ρ = slE ρ[i]? (c := ⟨fun o => shE o (c := ⟨fun t => intE t (c := ⟨fun a => x ρ (fun o ρ1 => intE o.t (c := ⟨fun b => onR (ρ1.set i (some (.sh (.int (f a b))))) (c := ⟨D.nx⟩)⟩)) D.ex⟩)⟩)⟩) := by
  apply propext
  constructor
  · rintro ⟨a, h, q⟩
    rw [h]
    exact q
  · intro h
    unfold slE at h
    split at h
    · rename_i o e
      cases o <;> first
        | exact (show False from h).elim
        | skip
      rename_i t
      cases t <;> first
        | exact (show False from h).elim
        | skip
      rename_i a
      exact ⟨a, e, h⟩
    · exact h.elim
@[simp ↓] theorem w_xInTab (f : Bool → Bool) (kvs : List (Str × T)) : xInTab f kvs x ρ KB Z = x ρ (fun o ρ1 => strE o.t (c := ⟨fun z => KB (f (kvs.lookup z).isSome) ρ1⟩)) Z := by
  unfold xInTab strE
  congr 1
@[simp ↓] theorem w_xDisp (kvs : List (Str × Int)) : xDisp kvs ρ K Z = K (.sh (kvD kvs)) ρ := rfl
@[simp] theorem isDic_kvD (kvs : List (Str × Int)) : isDic (kvD kvs) = true := rfl
theorem lookT_kvs (n : Str) : ∀ kvs : List (Str × Int), lookT (kvs.map fun q => (Sum.inr q.1 : Key)) (kvs.map fun q => T.int q.2) (Sum.inr n) = (kvs.lookup n).map .int
  | [] => rfl
  | (a, v) :: kvs => by
    have ih := lookT_kvs n kvs
    unfold lookT at ih ⊢
    simp only [List.map_cons, List.zip_cons_cons, List.lookup_cons]
    rw [ih]
    by_cases e : n = a
    · subst e
      simp
    · have e2 : (n == a) = false := by simpa using e
      rw [e2]
      split
      · rename_i q
        exact absurd (Sum.inr.inj (of_decide_eq_true q)) e
      · rfl
@[simp] theorem getD_kvD (kvs : List (Str × Int)) (n : Str) (d : Int) : getD (kvD kvs) (.str n) (.int d) = some (.int ((kvs.lookup n).getD d)) := by
  unfold getD kvD
  dsimp only
  rw [lookT_kvs]
  cases kvs.lookup n <;> rfl
@[simp ↓] theorem w_xDGet2 : xDGet2 x y z ρ K Z = x ρ (fun o ρ1 => isDic o.t = true ∧ y ρ1 (fun oy ρ2 => z ρ2 (fun oz ρ3 => optE (getD o.t oy.t oz.t) (c := ⟨fun t => K (.sh t) ρ3⟩)) Z) Z) Z := by
  unfold xDGet2 optE
  congr 1
  funext o ρ1
  congr 1
  congr 1
  funext oy ρ2
  congr 1
  funext oz ρ3
  cases getD o.t oy.t oz.t <;> rfl
def zipE (ts : List T) [c : Kb (List T → Prop)] : Prop := match ts with
  | [.lst ts, .lst us] => c.k (zipL ts us)
  | _ => False
@[simp ↓] theorem w_xZip : xZip w ρ KI Z = w ρ (fun os ρ1 => zipE (O.ts os) (c := ⟨fun l => KI l ρ1⟩)) Z := by
  unfold xZip zipE
  congr 1
@[simp] theorem zipE_l {ts us : List T} {f : List T → Prop} : zipE [.lst ts, .lst us] (c := ⟨f⟩) = f (zipL ts us) := rfl
def zipTE (ts : List T) [c : Kb (List T → Prop)] : Prop := match ts with
  | [.ktp ts, .tup us] => c.k (zipL ts us)
  | _ => False
@[simp ↓] theorem w_xZipT : xZipT w ρ KI Z = w ρ (fun os ρ1 => zipTE (O.ts os) (c := ⟨fun l => KI l ρ1⟩)) Z := by
  unfold xZipT zipTE
  congr 1
@[simp] theorem zipTE_l {ts us : List T} {f : List T → Prop} : zipTE [.ktp ts, .tup us] (c := ⟨f⟩) = f (zipL ts us) := rfl
@[simp] theorem v_len_ktp {ts : List T} {Q : O → Prop} : op1E lenT (.ktp ts) (c := ⟨Q⟩) = Q (.sh (.int ts.length)) := rfl
@[simp ↓] theorem w_xIxApp : xIxApp j m x ρ K Z = ((∃ c, ρ[j]? = some (some c)) ∧ x ρ (fun oi ρ1 => slE ρ1[j]? (c := ⟨fun c => lstE c (c := ⟨fun os => intE oi.t (c := ⟨fun i => slE ρ1[m]? (c := ⟨fun om => shE om (c := ⟨fun t => optE (ixN os.length i) (c := ⟨fun k => optE os[k]? (c := ⟨fun ok => lstE ok (c := ⟨fun inner => ok = .lst inner ∧ inner.length < sizeLine ∧ onR (ρ1.set j (some (c.re (.lst (os.set k (.lst (inner ++ [.sh t]))))))) (c := ⟨K (.sh .non)⟩)⟩)⟩)⟩)⟩)⟩)⟩)⟩)⟩)) Z) := by
  unfold xIxApp slotL slE lstE intE optE shE onR
  congr 1
  congr 1
  funext o ρ1
  cases ρ1[j]? with
  | none => rfl
  | some q => cases q with
    | none => rfl
    | some c =>
      dsimp only
      cases c.un <;> first
        | rfl
        | (rename_i os
           cases o.t <;> first
            | rfl
            | (rename_i i
               dsimp only
               cases ρ1[m]? with
               | none => rfl
               | some q2 => cases q2 with
                 | none => rfl
                 | some om => cases om <;> first
                    | rfl
                    | (dsimp only
                       cases ixN os.length i with
                       | none => rfl
                       | some k =>
                         dsimp only
                         cases os[k]? with
                         | none => rfl
                         | some ok => cases ok <;> simp [O.un] <;> (rename_i v o; cases o <;> simp))))
end
end TL
namespace TL
open PySem PySem.Spec PyProof.Rows L2
namespace Rd
end Rd
end TL
namespace TL
open PySem PySem.Spec PyProof.Rows L2
namespace Rd
/-- letters_from: slots 0 text, 1 start, 2 end -/
def x_letters_from : XS := xSeq (xAsg (xName 1) (gN 2)) (xSeq (xWhile (xAnd (x2T (intT fun i j => decide (i < j)) (xName 2) (xB ((un1 lenT)) (xCons (xName 0) (xNil)))) (xAnd (x2T (intT fun i j => decide (i < j)) (x2 subT (xName 2) (xName 1)) (xC (.int 8))) (xChainT (strT lexLe) (strT lexLe) (xC (.str "a")) (x2 ixT (xName 0) (xName 2)) (xC (.str "z"))))) (xAug 2 (· + ·) (xC (.int 1)))) (xRet (xName 2)))
/-- digits_from: slots 0 text, 1 start, 2 most, 3 end -/
def x_digits_from : XS := xSeq (xAsg (xName 1) (gN 3)) (xSeq (xWhile (xAnd (x2T (intT fun i j => decide (i < j)) (xName 3) (xB ((un1 lenT)) (xCons (xName 0) (xNil)))) (xAnd (x2T (intT fun i j => decide (i < j)) (x2 subT (xName 3) (xName 1)) (xName 2)) (xChainT (strT lexLe) (strT lexLe) (xC (.str "0")) (x2 ixT (xName 0) (xName 3)) (xC (.str "9"))))) (xAug 3 (· + ·) (xC (.int 1)))) (xRet (xName 3)))
/-- preorder: slots 0 form, 1 nodes, 2 waiting, 3 node -/
def x_preorder : XS := xSeq (xAsg (xLst (xNil)) (gN 1)) (xSeq (xAsg (xLst (xCons (xName 0) (xNil))) (gN 2)) (xSeq (xWhile (xBorT (xTru (xName 2))) (xSeq (xAsg (xPop 2) (gN 3)) (xSeq (xExp (xApp 1 (xCons (xName 3) (xNil)))) (xIfS (xOr (x2T eqT (x2 ixT (xName 3) (xC (.int 0))) (xC (.str "fn"))) (x2T eqT (x2 ixT (xName 3) (xC (.int 0))) (xC (.str "pair")))) (xSeq (xExp (xApp 2 (xCons (x2 ixT (xName 3) (xC (.int 2))) (xNil)))) (xExp (xApp 2 (xCons (x2 ixT (xName 3) (xC (.int 1))) (xNil))))) (xIfS (x2T eqT (x2 ixT (xName 3) (xC (.int 0))) (xC (.str "seal"))) (xExp (xApp 2 (xCons (x2 ixT (xName 3) (xC (.int 1))) (xNil)))) (xNext)))))) (xRet (xMov 1))))
end Rd
end TL
set_option maxHeartbeats 2000000
namespace TL
open PySem PySem.Spec PyProof.Rows L2
namespace Rd
def cntR (f : Nat → Bool) : Nat → List Nat → Nat
  | 0, _ => 0
  | _, [] => 0
  | n + 1, c :: l => if f c = true then cntR f n l + 1 else 0
def isL (c : Nat) : Bool := decide (97 ≤ c) && decide (c ≤ 122)
def isG (c : Nat) : Bool := decide (48 ≤ c) && decide (c ≤ 57)
theorem cntR_step {f : Nat → Bool} {n k c : Nat} {l : List Nat} (hk : k < n) (hc : l[k]? = some c) (hf : f c = true) : cntR f (n - k) (l.drop k) = cntR f (n - (k + 1)) (l.drop (k + 1)) + 1 := by
  obtain ⟨h1, h2⟩ := List.getElem?_eq_some_iff.mp hc
  rw [List.drop_eq_getElem_cons h1, h2, show n - k = (n - (k + 1)) + 1 by omega]
  show (if f c = true then _ else _) = _
  rw [if_pos hf]
theorem cntR_end {f : Nat → Bool} {n k : Nat} {l : List Nat} (h : k < n → ∀ c, l[k]? = some c → f c = false) : cntR f (n - k) (l.drop k) = 0 := by
  by_cases hk : k < n
  · cases hc : l[k]? with
    | none =>
      rw [List.drop_eq_nil_of_le (by simpa using hc)]
      cases n - k <;> rfl
    | some c =>
      obtain ⟨h1, h2⟩ := List.getElem?_eq_some_iff.mp hc
      rw [List.drop_eq_getElem_cons h1, h2, show n - k = (n - (k + 1)) + 1 by omega]
      show (if f c = true then _ else _) = _
      rw [if_neg (by rw [h hk c hc]; decide)]
  · rw [show n - k = 0 by omega]
    rfl
theorem cntR_le (f : Nat → Bool) : ∀ (n : Nat) (l : List Nat), cntR f n l ≤ l.length
  | 0, _ => by simp [cntR]
  | _ + 1, [] => by simp [cntR]
  | n + 1, c :: l => by
    have := cntR_le f n l
    unfold cntR
    split <;> simp <;> omega
def g_letters_from : GT := fun ts K _ => ∃ s : Str, ts = [.str s, .int 0] ∧ s.length ≤ sizeLine ∧ K (.sh (.int (cntR isL 8 s.cps.toList : Nat)))
def g_digits_from : GT := fun ts K _ => ∃ (s : Str) (a n : Nat), ts = [.str s, .int (a : Nat), .int (n : Nat)] ∧ s.length ≤ sizeLine ∧ a ≤ s.length ∧ K (.sh (.int (a + cntR isG n (s.cps.toList.drop a) : Nat)))
theorem pl_digits_from (ts : List T) (K0 : O → Prop) (Z0 : ZX) (h : g_digits_from ts K0 Z0) : x_digits_from (endP K0 Z0) (TL.slots 4 ts) := by
  obtain ⟨s, a, n, rfl, hl, ha, hk⟩ := h
  have hl2 : s.length = s.cps.toList.length := by simp [Str.length]
  unfold x_digits_from
  simp -implicitDefEqProofs
  refine whI (fun m ρ => ∃ k : Nat, ρ = [some (.sh (.str s)), some (.sh (.int (a : Nat))), some (.sh (.int (n : Nat))), some (.sh (.int (a + k : Nat)))] ∧ a + k ≤ s.length ∧ m = s.length - k ∧ k + cntR isG (n - k) ((s.cps.toList.drop a).drop k) = cntR isG n (s.cps.toList.drop a)) ⟨_, 0, by simp, by omega, rfl, by simp⟩ ?_
  rintro m ρ ⟨k, rfl, hkl, rfl, hc⟩
  have done : (k < n → ∀ c, (s.cps.toList.drop a)[k]? = some c → isG c = false) → cntR isG n (s.cps.toList.drop a) = k := fun q => by
    rw [← hc, cntR_end q, Nat.add_zero]
  simp -implicitDefEqProofs
  refine ⟨hl, ?_⟩
  by_cases a1 : a + k < s.length
  · have a1' : (a : Int) + (k : Int) < (s.length : Int) := by omega
    obtain ⟨c, hcc⟩ : ∃ c, s.cps.toList[a + k]? = some c := ⟨s.cps.toList[a + k]'(by omega), List.getElem?_eq_getElem (by omega)⟩
    have hcc2 : (s.cps.toList.drop a)[k]? = some c := by rw [List.getElem?_drop]; exact hcc
    have hat : atI s.cps.toList ((a : Int) + (k : Int)) = some c := by
      rw [show (a : Int) + (k : Int) = ((a + k : Nat) : Int) by omega, atI_nat]
      exact hcc
    by_cases a2 : k < n
    · have a2' : (a : Int) + (k : Int) - (a : Int) < (n : Int) := by omega
      simp -implicitDefEqProofs [a1, a1', a2, a2', hat]
      refine ⟨hl, ?_⟩
      by_cases a3 : 48 ≤ c
      · by_cases a4 : c ≤ 57
        · simp -implicitDefEqProofs [a3, a4]
          refine ⟨s.length - (k + 1), by omega, k + 1, by simp; omega, by omega, rfl, ?_⟩
          have st := cntR_step a2 hcc2 (f := isG) (by simp [isG, a3, a4])
          rw [List.drop_drop (l := s.cps.toList) (i := k + 1)] at st
          omega
        · simp -implicitDefEqProofs [a3, a4]
          rw [done fun _ d hd => by rw [hcc2] at hd; cases hd; simp [isG, a4]] at hk
          exact hk
      · simp -implicitDefEqProofs [a3]
        rw [done fun _ d hd => by rw [hcc2] at hd; cases hd; simp [isG, a3]] at hk
        exact hk
    · have a2' : ¬ (a : Int) + (k : Int) - (a : Int) < (n : Int) := by omega
      simp -implicitDefEqProofs [a1, a1', a2, a2']
      rw [done fun q => absurd q a2] at hk
      exact hk
  · have a1' : ¬ (a : Int) + (k : Int) < (s.length : Int) := by omega
    simp -implicitDefEqProofs [a1, a1']
    rw [done fun _ d hd => by rw [List.getElem?_eq_none (by rw [List.length_drop]; omega)] at hd; cases hd] at hk
    exact hk
end Rd
end TL
set_option maxHeartbeats 2000000
namespace TL
open PySem PySem.Spec PyProof.Rows L2
@[simp] theorem isiE_n (cs : List Ty7) (f : Bool → Prop) : isiE cs .non (c := ⟨f⟩) = f (cs.any fun c => T.non.isTy c) := by unfold isiE; simp [T.tn]
namespace Rd
theorem cps_len (s : Str) : s.length = s.cps.toList.length := by simp [Str.length]
def knL (l : List Nat) : Bool := decide (0 < cntR isL 8 l) && decide (cntR isL 8 l + cntR isG 2 (l.drop (cntR isL 8 l)) = l.length)
def knT : T → Bool
  | .str s => knL s.cps.toList
  | _ => false
theorem knT_s (s : Str) : knT (.str s) = knL s.cps.toList := rfl
def unT : T → Bool
  | .int i => decide (0 ≤ i) && decide (i ≤ 9999)
  | _ => false
theorem az_mem (c : Nat) : decide (c ∈ (Str.ofString "abcdefghijklmnopqrstuvwxyz").cps.toList) = isL c := by
  rw [show (Str.ofString "abcdefghijklmnopqrstuvwxyz").cps.toList = List.range' 97 26 by decide +kernel]
  unfold isL
  rw [← Bool.decide_and]
  exact decide_eq_decide.mpr (by rw [List.mem_range'_1]; omega)
theorem dg_mem (c : Nat) : decide (c ∈ (Str.ofString "0123456789").cps.toList) = isG c := by
  rw [show (Str.ofString "0123456789").cps.toList = List.range' 48 10 by decide +kernel]
  unfold isG
  rw [← Bool.decide_and]
  exact decide_eq_decide.mpr (by rw [List.mem_range'_1]; omega)
@[simp] theorem az_mem2 (c : Nat) : decide (c ∈ (Str.ofString "abcdefghijklmnopqrstuvwxyz").cps) = isL c := by
  rw [← az_mem]
  exact decide_eq_decide.mpr (by simp)
@[simp] theorem dg_mem2 (c : Nat) : decide (c ∈ (Str.ofString "0123456789").cps) = isG c := by
  rw [← dg_mem]
  exact decide_eq_decide.mpr (by simp)
def gwL (l : List Nat) : Bool := decide (1 ≤ l.length) && (decide (l.length ≤ 8) && l.all isL)
def gwT : T → Bool
  | .str s => gwL s.cps.toList
  | _ => false
def sgB (f : Nat → Bool) : T → O
  | .str s => match s.cps.toList with
    | c :: _ => .sh (.bl (f c))
    | [] => .sh .non
  | _ => .sh .non
@[simp] theorem sgB_s (f : Nat → Bool) (c : Nat) : sgB f (.str ⟨#[c]⟩) = .sh (.bl (f c)) := rfl
end Rd
end TL
set_option maxHeartbeats 2000000
namespace TL
open PySem PySem.Spec PyProof.Rows L2
namespace Rd
def gnL (l : List Nat) (d : Nat) : Bool := decide (1 ≤ cntR isL 9 l) && (decide (cntR isL 9 l ≤ 8) && (decide ((l.drop (cntR isL 9 l)).length ≤ d) && (l.drop (cntR isL 9 l)).all isG))
def gnT (d : Nat) : T → Bool
  | .str s => gnL s.cps.toList d
  | _ => false
end Rd
end TL
set_option maxHeartbeats 4000000
namespace TL
open PySem PySem.Spec PyProof.Rows L2
namespace Rd
section
variable {α : Type}
def chkN (S : α → Option (List α)) : Nat → α → Bool
  | 0, _ => false
  | n + 1, v => match S v with
    | none => false
    | some l => l.all (chkN S n)
def chk (S : α → Option (List α)) (m : α → Nat) (v : α) : Bool := chkN S (m v + 1) v
variable {S : α → Option (List α)} {m : α → Nat}
theorem all_eq {f g : α → Bool} : ∀ {l : List α}, (∀ x ∈ l, f x = g x) → l.all f = l.all g
  | [], _ => rfl
  | a :: l, h => by
    rw [List.all_cons, List.all_cons, h a List.mem_cons_self, all_eq fun x hx => h x (List.mem_cons_of_mem _ hx)]
theorem chkN_eq (hS : ∀ v l, S v = some l → ∀ x ∈ l, m x < m v) : ∀ (n : Nat) (v : α), m v < n → chkN S n v = chkN S (m v + 1) v
  | 0, v, h => by omega
  | n + 1, v, h => by
    show (match S v with | none => false | some l => l.all (chkN S n)) = (match S v with | none => false | some l => l.all (chkN S (m v)))
    cases e : S v with
    | none => rfl
    | some l =>
      refine all_eq fun x hx => ?_
      have hx2 := hS v l e x hx
      rw [chkN_eq hS n x (by omega)]
      by_cases q : m v ≤ n
      · cases q2 : m v with
        | zero => omega
        | succ k =>
          by_cases q3 : k + 1 ≤ n
          · exact (chkN_eq hS (k + 1) x (by omega)).symm ▸ rfl
          · omega
      · omega
termination_by n v => (n, m v)
theorem chk_eq (hS : ∀ v l, S v = some l → ∀ x ∈ l, m x < m v) (v : α) : chk S m v = (match S v with | none => false | some l => l.all (chk S m)) := by
  unfold chk
  show (match S v with | none => false | some l => l.all (chkN S (m v))) = _
  cases e : S v with
  | none => rfl
  | some l => exact all_eq fun x hx => chkN_eq hS _ x (hS v l e x hx)
end
def fmS : T → Option (List T)
  | .tup [.str h, a] => if h = "fn" ∨ h = "pair" then none else if h = "seal" then some [a] else if h = "kind" then (if knT a = true then some [] else none) else if h = "var" ∧ unT a = true then some [] else none
  | .tup [.str h, a, b] => if h = "fn" ∨ h = "pair" then some [a, b] else none
  | _ => none
theorem fmS_2 (h : Str) (a : T) : fmS (.tup [.str h, a]) = if h = "fn" ∨ h = "pair" then none else if h = "seal" then some [a] else if h = "kind" then (if knT a = true then some [] else none) else if h = "var" ∧ unT a = true then some [] else none := rfl
theorem nn_pos (x : T) : 1 ≤ x.nn := by cases x <;> simp [T.nn]
theorem fmS_lt (v : T) (l : List T) (h : fmS v = some l) : ∀ x ∈ l, x.nn < v.nn := by
  unfold fmS at h
  split at h
  · rename_i s a
    have := nn_pos (.str s)
    rw [nn_tup, nns_cons, nns_cons]
    split at h
    · cases h
    · split at h
      · cases h
        intro x hx
        cases List.mem_singleton.mp hx
        omega
      · split at h
        · split at h
          · cases h; intro x hx; cases hx
          · cases h
        · split at h
          · cases h; intro x hx; cases hx
          · cases h
  · rename_i s a b
    have := nn_pos (.str s)
    rw [nn_tup, nns_cons, nns_cons, nns_cons]
    split at h
    · cases h
      intro x hx
      rcases List.mem_cons.mp hx with rfl | hx
      · omega
      · cases List.mem_singleton.mp hx
        omega
    · cases h
  · cases h
def fmT (v : T) : Bool := chk fmS T.nn v
theorem fmT_eq (v : T) : fmT v = (match fmS v with | none => false | some l => l.all fmT) := (chk_eq fmS_lt v).trans (by cases fmS v <;> rfl)
end Rd
end TL
set_option maxHeartbeats 4000000
namespace TL
open PySem PySem.Spec PyProof.Rows L2
namespace Rd
def nvT : T → Bool
  | .tup (.str h :: _) => !decide (h = "var")
  | _ => true
def grS (v : T) : Option (List T) := match fmS v with
  | none => none
  | some l => if nvT v = true then some l else none
def gdT (v : T) : Bool := chk grS T.nn v
def g_preorder : GT := fun ts K _ => ∃ v : T, ts = [v] ∧ v.vw = true ∧ v.nn ≤ 1000000 ∧ fmT v = true ∧ ∀ l : List T, (∀ x ∈ l, fmT x = true) → l.all nvT = gdT v → l.length ≤ v.nn → K (.lst (l.map .sh))
end Rd
end TL
set_option maxHeartbeats 4000000
namespace TL
open PySem PySem.Spec PyProof.Rows L2
namespace Rd
def gpT (s : String) (v : T) : Bool := if s = "word" then gwT v else if s = "kind" then fmT (.tup [.str "kind", v]) else if s = "form" then gdT v else true
def layL : List (Str × List String) := [("const", ["word"]), ("name", ["word"]), ("hole", []), ("use", ["word"]), ("fn", ["word", "term"]), ("call", ["term", "term"]), ("pair", ["term", "term"]), ("left", ["term"]), ("right", ["term"]), ("seal", ["term"]), ("unseal", ["term"]), ("note", ["term", "form"]), ("pick", ["kind", "term", "term", "term"])]
def lay (w : Str) : Option (List String) := layL.lookup w
def gnS (ss : List String) (r : List T) : Bool := (ss.zip r).all fun q => gpT q.1 q.2
end Rd
end TL
set_option maxHeartbeats 4000000
namespace TL
open PySem PySem.Spec PyProof.Rows L2
namespace Rd
def kidsL : List String → List T → List T
  | s :: ss, x :: xs => if s = "term" then x :: kidsL ss xs else kidsL ss xs
  | _, _ => []
def tmS : T → Option (List T)
  | .tup (.str h :: r) => (match lay h with
    | none => none
    | some ss => if (decide (r.length = ss.length) && gnS ss r) = true then some (kidsL ss r) else none)
  | _ => none
def tmT (v : T) : Bool := chk tmS T.nn v
end Rd
end TL
set_option maxHeartbeats 4000000
namespace TL
open PySem PySem.Spec PyProof.Rows L2
namespace Rd
def isFn : Hd → Str → Bool
  | .fn y, x => decide (y = x)
  | _, _ => false
end Rd
end TL
set_option maxHeartbeats 4000000
namespace TL
open PySem PySem.Spec PyProof.Rows L2
namespace Rd
end Rd
end TL
set_option maxHeartbeats 4000000
namespace TL
open PySem PySem.Spec PyProof.Rows L2
namespace Rd
end Rd
end TL
set_option maxHeartbeats 4000000
namespace TL
open PySem PySem.Spec PyProof.Rows L2
namespace Rd
end Rd
end TL
set_option maxHeartbeats 4000000
namespace TL
open PySem PySem.Spec PyProof.Rows L2
namespace Rd
def fzL : List (Str × Int) := [("fn", 3), ("pair", 3), ("seal", 2)]
def szL : List (Str × Int) := [("call", 3), ("pair", 3), ("left", 2), ("right", 2), ("seal", 2), ("unseal", 2)]
def jG (w : Str) (r : List T) : Option (List T) :=
  if w = "kind" ∧ r.length = 1 ∧ (r.head?.map (gnT 2)) = some true then some []
  else if ((r.length : Int) + 1) = (fzL.lookup w).getD 0 then some r else none
def jN (w : Str) (r : List T) : Option (List (Bool × T)) :=
  if w = "hole" ∧ r.length = 0 then some []
  else if (w = "const" ∨ w = "name" ∨ w = "use") ∧ r.length = 1 ∧ (r.head?.map (gnT 0)) = some true then some []
  else if w = "fn" ∧ r.length = 2 ∧ (r.head?.map (gnT 0)) = some true then some ((r.drop 1).map fun x => (false, x))
  else if w = "note" ∧ r.length = 2 then some ((r.take 1).map (fun x => (false, x)) ++ (r.drop 1).map fun x => (true, x))
  else if w = "pick" ∧ r.length = 4 ∧ (r.head?.map (gnT 2)) = some true then some ((r.drop 1).map fun x => (false, x))
  else if ((r.length : Int) + 1) = (szL.lookup w).getD 0 then some (r.map fun x => (false, x)) else none
def jS : Bool × T → Option (List (Bool × T))
  | (true, .tup (.str w :: r)) => (jG w r).map fun l => l.map fun x => (true, x)
  | (false, .tup (.str w :: r)) => jN w r
  | _ => none
def jT (v : Bool × T) : Bool := chk jS (fun q => q.2.nn) v
end Rd
end TL
set_option maxHeartbeats 4000000
namespace TL
open PySem PySem.Spec PyProof.Rows L2
namespace Rd
theorem kn_fm (a : T) : fmT (.tup [.str (Str.ofString "kind"), a]) = knT a := by
  rw [fmT_eq, fmS_2]
  cases knT a <;> simp
@[simp] theorem gpT_w (a : T) : gpT "word" a = gwT a := by simp [gpT]
@[simp] theorem gpT_k (a : T) : gpT "kind" a = knT a := by simp [gpT, kn_fm]
@[simp] theorem gpT_f (a : T) : gpT "form" a = gdT a := by simp [gpT]
@[simp] theorem gpT_t (a : T) : gpT "term" a = true := by simp [gpT]
def JJ (w : Str) (r : List T) : Bool := match jN w r with
  | none => false
  | some l => l.all jT
section
variable {r : List T} (ih : ∀ x ∈ r, jT (false, x) = tmT x) (ih2 : ∀ x, jT (true, x) = gdT x)
include ih ih2
end
end Rd
end TL
set_option maxHeartbeats 4000000
namespace TL
open PySem PySem.Spec PyProof.Rows L2
namespace Rd
end Rd
end TL
set_option maxHeartbeats 4000000
namespace TL
open PySem PySem.Spec PyProof.Rows L2
namespace Rd
end Rd
end TL
set_option maxHeartbeats 4000000
namespace TL
open PySem PySem.Spec PyProof.Rows L2
namespace Rd
end Rd
end TL
set_option maxHeartbeats 4000000
namespace TL
open PySem PySem.Spec PyProof.Rows L2
def exnE (a d C : Addr) (t : T) [c : Kb (List Str → List T → Prop)] : Prop := match t with
  | .exn a' d' C' fs ts => a' = a ∧ d' = d ∧ C' = C ∧ c.k fs ts
  | _ => False
@[simp] theorem exnE_e (a d C : Addr) (fs : List Str) (ts : List T) (f : List Str → List T → Prop) : exnE a d C (.exn a d C fs ts) (c := ⟨f⟩) = f fs ts := by simp [exnE]
@[simp ↓] theorem w_xIsX (a d C : Addr) (tst : Option Bool) (x : XE) (ρ : R) (K : O → R → Prop) (Z : ZC) : xIsX a d C tst x ρ K Z = x ρ (fun o ρ1 => exnE a d C o.t (c := ⟨fun fs ts => optE tst (c := ⟨fun b => K (.sh (.bl b)) ρ1⟩)⟩)) Z := by
  unfold xIsX exnE optE
  congr 1
  funext o ρ1
  cases o.t <;> first
    | rfl
    | (cases tst <;> rfl)
@[simp ↓] theorem w_xFld (a d C : Addr) (f : Str) (x : XE) (ρ : R) (K : O → R → Prop) (Z : ZC) : xFld a d C f x ρ K Z = x ρ (fun o ρ1 => exnE a d C o.t (c := ⟨fun fs ts => optE (lookT fs ts f) (c := ⟨fun t => K (.sh t) ρ1⟩)⟩)) Z := by
  unfold xFld exnE optE
  congr 1
  funext o ρ1
  cases o.t <;> first
    | rfl
    | (rename_i a' d' C' fs ts
       dsimp only
       cases lookT fs ts f <;> rfl)
namespace Rd
def flagN : List Str := ["BadText", "UnknownName", "Twice", "Circle", "BadRow", "NotThere", "TooDeep", "TooBig", "NoMeaning", "NoSolution", "Rough", "InUse", "TooWide", "Stuck", "TooLong"]
/-- the class C is the i-th of the named ones, and a ValueError -/
def KitI (kit : Addr → Str → Option Bool) (kitV : Addr → Option Bool) (C : Addr) (i : Nat) : Prop := (∀ (k : Nat) (n : Str), flagN[k]? = some n → kit C n = some (decide (k = i))) ∧ kitV C = some true
def flL (i : Nat) : List T := (List.range 15).map fun k => .bl (decide (k = i))
/-- the three classes that reduced_at raises -/
structure ExcOk (ga : Str → Addr) (cs : Addr → Prop) (tst : Addr → Option Bool) (kit : Addr → Str → Option Bool) (kitV : Addr → Option Bool) (c : Str) (i : Nat) : Prop where
  cs : cs (ga c)
  tst : tst (ga c) = some true
  kit : KitI kit kitV (ga c) i
def toldL (t : Tm) (j : Int) : List T := match (if 0 ≤ j then (rows0 t)[j.toNat]? else none) with
  | some (u, _) => dueL t j.toNat u
  | none => [.str "NotThere", .int j]
def g__law_told (dd : Nat) : GT := fun ts K _ => ∃ (t : Tm) (j : Int), ts = [t.T, .int j] ∧ t.ok ∧ t.sz ≤ 200 ∧ t.dep ≤ dd ∧ K (.lst ((toldL t j).map .sh))
end Rd
end TL
set_option maxHeartbeats 4000000
namespace TL
open PySem PySem.Spec PyProof.Rows L2
namespace Rd
end Rd
end TL
set_option maxHeartbeats 4000000
namespace TL
open PySem PySem.Spec PyProof.Rows L2
namespace Rd
@[simp] theorem ots_rep (n : Nat) (o : O) : O.ts (List.replicate n o) = List.replicate n o.t := by rw [O.ts_map, List.map_replicate]
def g__law_bound_heads : GI := fun o ts K _ => StoreOk o ∧ ∃ x : Str, ts = [.str x] ∧ sOk x ∧ ∀ (r : Tm) o', StoreOk o' → r.ok → r.sz ≤ 150 → K (.lst (r.heads.map fun h => .sh h.t)) o'
end Rd
end TL
set_option maxHeartbeats 4000000
namespace TL
open PySem PySem.Spec PyProof.Rows L2
namespace Rd
/-- a row that is read the first time or again, of any entries -/
def RowX (x : O) (l : List T) : Prop := (∃ os, x = .lst os ∧ O.ts os = l) ∨ x = .sh (.lst l)
theorem RowX.t {x : O} {l : List T} (h : RowX x l) : x.t = .lst l := by
  rcases h with ⟨os, rfl, rfl⟩ | rfl <;> rfl
end Rd
end TL
set_option maxHeartbeats 4000000
namespace TL
open PySem PySem.Spec PyProof.Rows L2
namespace Rd
end Rd
end TL
namespace TL
open PySem PySem.Spec PyProof.Rows L2
section
variable {K : PySem.W.Frag} {B Wd H S : Hp} {os os' : List O} {o : O} {vs vs' : List V} {v : V} {f : List Addr}
theorem Owns.outO : ∀ {os : List O} {vs : List V} {f : List Addr} {k : Nat}, Owns K H S os vs f → os[k]? = some o →
    ∃ v f0 f', vs[k]? = some v ∧ Own K H S o v f0 ∧ Owns K H S (os.set k (.sh (.adr v))) vs f' ∧ f.Perm (f0 ++ f')
  | [], _, _, _, _, e => by simp at e
  | o :: os, vs, f, 0, h, e => by
    obtain ⟨v, r, f1, f2, rfl, h1, h2, rfl⟩ := h
    simp at e
    subst e
    exact ⟨v, f1, f2, rfl, h1, ⟨v, r, [], f2, rfl, ⟨rfl, rfl⟩, h2, rfl⟩, List.Perm.refl _⟩
  | o :: os, vs, f, k + 1, h, e => by
    obtain ⟨v, r, f1, f2, rfl, h1, h2, rfl⟩ := h
    simp at e
    obtain ⟨w, f0, f', q1, q2, q4, q5⟩ := Owns.outO h2 e
    refine ⟨w, f0, f1 ++ f', by simpa using q1, q2, ⟨v, r, f1, f', rfl, h1, q4, rfl⟩, ?_⟩
    refine (List.Perm.append_left f1 q5).trans ?_
    rw [← List.append_assoc, ← List.append_assoc]
    exact List.Perm.append_right f' List.perm_append_comm
theorem Owns.backO : ∀ {os : List O} {vs : List V} {f : List Addr} {k : Nat} {f0 : List Addr}, Owns K H S os vs f → os[k]? = some (.sh (.adr v)) → Own K H S o v f0 →
    ∃ f', Owns K H S (os.set k o) vs f' ∧ (f0 ++ f).Perm f'
  | [], _, _, _, _, _, hk, _ => by simp at hk
  | x :: os, vs, f, 0, f0, h, hk, hi => by
    obtain ⟨w, r, f1, f2, rfl, h1, h2, rfl⟩ := h
    simp at hk
    subst hk
    obtain ⟨rfl, ev⟩ := h1
    have ev : w = v := ev
    subst ev
    exact ⟨f0 ++ f2, ⟨w, r, f0, f2, rfl, hi, h2, rfl⟩, by simp⟩
  | x :: os, vs, f, k + 1, f0, h, hk, hi => by
    obtain ⟨w, r, f1, f2, rfl, h1, h2, rfl⟩ := h
    simp at hk
    obtain ⟨f', q1, q2⟩ := Owns.backO h2 hk hi
    refine ⟨f1 ++ f', ⟨w, r, f1, f', rfl, h1, q1, rfl⟩, ?_⟩
    refine List.Perm.trans ?_ (List.Perm.append_left f1 q2)
    rw [← List.append_assoc, ← List.append_assoc]
    exact List.Perm.append_right f2 List.perm_append_comm
/-- an item of the list in front stands apart -/
theorem Smo.take {k : Nat} {a : Addr} {xs : List O} {va : List V} (h : Smo K B Wd (.lst os :: xs) (.ref a :: va) H) (hk : os[k]? = some o) : ∃ avs v, H a = some (.lst avs) ∧ avs[k]? = some v ∧ os.length = avs.length ∧
    Smo K B Wd (.lst (os.set k (.sh (.adr v))) :: .io v o :: xs) (.ref a :: v :: va) H := by
  obtain ⟨S, f, h1, h2, h3, ⟨w, r, f1, f2, ew, ⟨a', avs, fq, e2, e3, e4, rfl⟩, e6, rfl⟩, h5, h6, h7⟩ := h
  cases ew
  cases e2
  obtain ⟨v, f0, f', q1, q2, q4, q5⟩ := Owns.outO e4 hk
  refine ⟨avs, v, e3, q1, (Owns.len e4).1, S, (a :: f') ++ (f0 ++ f2), h1, h2, h3, ⟨.ref a, _, a :: f', f0 ++ f2, rfl, ⟨a, avs, f', rfl, e3, q4, rfl⟩, ⟨v, _, f0, f2, rfl, ⟨rfl, q2⟩, e6, rfl⟩, rfl⟩, ?_, fun b hb => h6 b ?_, h7⟩
  · refine List.Perm.nodup_iff ?_ |>.mp h5
    refine (List.Perm.append_right f2 (List.Perm.cons a q5)).trans ?_
    simp only [List.cons_append, List.append_assoc]
    refine List.Perm.cons a ?_
    rw [← List.append_assoc, ← List.append_assoc]
    exact List.Perm.append_right f2 List.perm_append_comm
  · have p : ((a :: fq) ++ f2).Perm ((a :: f') ++ (f0 ++ f2)) := by
      refine (List.Perm.append_right f2 (List.Perm.cons a q5)).trans ?_
      simp only [List.cons_append, List.append_assoc]
      refine List.Perm.cons a ?_
      rw [← List.append_assoc, ← List.append_assoc]
      exact List.Perm.append_right f2 List.perm_append_comm
    exact p.mem_iff.mpr hb
/-- and comes back -/
theorem Smo.back {k : Nat} {w : V} {u : V} {xs : List O} {va : List V} (h : Smo K B Wd (.lst os :: .io v o :: xs) (w :: u :: va) H) (hk : os[k]? = some (.sh (.adr v))) :
    Smo K B Wd (.lst (os.set k o) :: xs) (w :: va) H := by
  obtain ⟨S, f, h1, h2, h3, ⟨w', r, f1, f2, ew, ⟨a', avs, fq, e2, e3, e4, rfl⟩, ⟨u', r', f3, f4, eu, ⟨ev, e8⟩, e6, rfl⟩, rfl⟩, h5, h6, h7⟩ := h
  cases ew
  cases eu
  subst e2 ev
  obtain ⟨f', q1, q2⟩ := Owns.backO e4 hk e8
  have p : ((a' :: fq) ++ (f3 ++ f4)).Perm ((a' :: f') ++ f4) := by
    simp only [List.cons_append]
    refine List.Perm.cons a' ?_
    rw [← List.append_assoc]
    exact List.Perm.append_right f4 (List.perm_append_comm.trans q2)
  exact ⟨S, (a' :: f') ++ f4, h1, h2, h3, ⟨_, _, a' :: f', f4, rfl, ⟨a', avs, f', rfl, e3, q1, rfl⟩, e6, rfl⟩, p.nodup_iff.mp h5, fun b hb => h6 b (p.mem_iff.mpr hb), h7⟩
end
section
variable {K : PySem.W.Frag} {B Wd H : Hp} {os : List O} {fr ρ : R} {frv σ : L2.St} {c o : O} {j r k : Nat} {v : V}
theorem Sim.take (s : Sim K B Wd (fr ++ ρ) (frv ++ σ) H) (hl : fr.length = frv.length) (hj : ρ[j]? = some (some c)) (ec : c.un = .lst os) (hk : os[k]? = some o) :
    ∃ a avs v, σ[j]? = some (some (.ref a)) ∧ H a = some (.lst avs) ∧ os.length = avs.length ∧ avs[k]? = some v ∧
      Sim K B Wd (fr ++ (ρ.set j (some (c.re (.lst (os.set k (.sh (.adr v))))))).set r (some (.io v o))) (frv ++ σ.set r (some v)) H := by
  obtain ⟨w, h1, h2⟩ := s.pull (n := fr.length + j) (o := c) (by rw [get_app]; exact hj)
  have h1' : σ[j]? = some (some w) := by rw [hl, get_app] at h1; exact h1
  rw [set_app] at h2
  obtain ⟨B', Wd', hBB, h3, back⟩ := Sim.front (as := [c]) (va := [w]) (os := fr ++ ρ.set j none) (vs := frv ++ σ) rfl (by simpa using h2)
  obtain ⟨h4, re⟩ := h3.un
  rw [ec] at h4
  obtain ⟨a, ew⟩ : ∃ a, w = .ref a := by
    obtain ⟨S, f, _, _, _, ⟨w', r, f1, f2, ew, ⟨a, vs, fq, e2, e3, e4, _⟩, _⟩, _⟩ := h4
    cases ew
    exact ⟨a, e2⟩
  subst ew
  obtain ⟨avs, v, q1, q2, q3, h5⟩ := h4.take hk
  refine ⟨a, avs, v, h1', q1, q3, q2, ?_⟩
  have h6 := re _ _ _ _ h5
  have h7 := back [c.re (.lst (os.set k (.sh (.adr v)))), .io v o] [.ref a, v] _ h6
  have h8 : Sim K B Wd (some (c.re (.lst (os.set k (.sh (.adr v))))) :: ((some (.io v o) :: fr) ++ ρ.set j none)) (some (.ref a) :: ((some v :: frv) ++ σ)) H := by simpa using h7
  have h9 := Sim.setAt (ρ := ρ.set j none) (by simp [hl]) h8 j
  rw [List.set_set, set_id h1'] at h9
  have h10 : Sim K B Wd (some (.io v o) :: (fr ++ ρ.set j (some (c.re (.lst (os.set k (.sh (.adr v)))))))) (some v :: (frv ++ σ)) H := by simpa using h9
  exact Sim.setAt hl h10 r
theorem Sim.back (s : Sim K B Wd (fr ++ ρ) (frv ++ σ) H) (hl : fr.length = frv.length) (hj : ρ[j]? = some (some c)) (ec : c.un = .lst os) (hk : os[k]? = some (.sh (.adr v))) (hr : ρ[r]? = some (some (.io v o))) (hrj : r ≠ j) :
    Sim K B Wd (fr ++ (ρ.set j (some (c.re (.lst (os.set k o))))).set r none) (frv ++ σ) H := by
  obtain ⟨u, g1, g2⟩ := s.pull (n := fr.length + r) (o := .io v o) (by rw [get_app]; exact hr)
  rw [set_app] at g2
  obtain ⟨w, h1, h2⟩ := g2.pull (n := fr.length + j + 1) (o := c) (by rw [List.getElem?_cons_succ, get_app, List.getElem?_set_ne hrj]; exact hj)
  have h1' : σ[j]? = some (some w) := by
    rw [List.getElem?_cons_succ, hl, get_app] at h1
    exact h1
  rw [List.set_cons_succ, set_app] at h2
  obtain ⟨B', Wd', hBB, h3, back⟩ := Sim.front (as := [c, .io v o]) (va := [w, u]) (os := fr ++ (ρ.set r none).set j none) (vs := frv ++ σ) rfl (by simpa using h2)
  obtain ⟨h4, re⟩ := h3.un
  rw [ec] at h4
  have h6 := re _ _ _ _ (h4.back hk)
  have h7 := back [c.re (.lst (os.set k o))] [w] _ h6
  have h9 := Sim.setAt (ρ := (ρ.set r none).set j none) hl (by simpa using h7) j
  rw [List.set_set, set_id h1', List.set_comm _ _ hrj] at h9
  exact h9
end
/-- r = x[e], where x is an owned list -/
def xTake (j r : Nat) (x : XE) : XS := fun D ρ => (∃ c, ρ[j]? = some (some c)) ∧ x ρ (fun oi ρ1 => match slotL ρ1 j, oi.t with
  | some (c, os), .int i => (match ixN os.length i with
    | some k => (match os[k]? with
      | some o => ∀ v, D.nx ((ρ1.set j (some (c.re (.lst (os.set k (.sh (.adr v))))))).set r (some (.io v o)))
      | none => False)
    | none => False)
  | _, _ => False) D.ex
/-- before the rest: what stands apart in r is at home in x again -/
def xPut (j r : Nat) (rest : XS) : XS := fun D ρ => ∃ c os k v o, ρ[j]? = some (some c) ∧ c.un = .lst os ∧ os[k]? = some (.sh (.adr v)) ∧ ρ[r]? = some (some (.io v o)) ∧ rest D ((ρ.set j (some (c.re (.lst (os.set k o))))).set r none)
section
variable {X : Cx} {W : L2.WX} {b : Expr} {sts : List Stmt} {xb : XE} {xr : XS} {pos p p2 p3 : Pos} {n nr : Str}
theorem pss_put (j r : Nat) (hrest : PSst X W sts xr) (hrj : r ≠ j := by decide) : PSst X W sts (xPut j r xr) :=
  PSs.imp hrest fun D σ H ⟨B, Wd, fr, frv, ρ, D0, hl, s, ⟨c, os, k, v, o, w1, w2, w3, w4, w5⟩, q⟩ =>
    ⟨B, Wd, fr, frv, _, D0, hl, s.back hl w1 w2 w3 w4 hrj, w5, q⟩
theorem ps_take (j r : Nat) (hN : X.N.Nodup) (hb : PEt X W b xb) (hs : PlainIx b)
    (hNj : X.N[j]? = some n := by rfl) (hv : Vis X.env.scope n := by first | exact Or.inl rfl | exact Or.inr (Or.inl rfl) | exact Or.inr (Or.inr rfl)) (hd : (n == ("__debug__" : Str)) = false := by decide) (hcd : (n == ("__classdict__" : Str)) = false := by decide)
    (hNr : X.N[r]? = some nr := by rfl)
    (hx : Loc X.env.scope nr := by first | exact Or.inl rfl | exact Or.inr rfl) (hsw : swapsWith (.Subscript (.Name n p) b p2) (some (.Name nr p3)) pos.line X.env = pure false := by rfl)
    (hf : X.fn nr = true ∨ X.env.scope.names.lookup nr = some .local := by first | exact .inl rfl | exact .inr rfl | assumption) :
    PSt X W (.Assign [.Name nr p3] (.Subscript (.Name n p) b p2) pos) (xTake j r xb) :=
  PS.imp (L2.ps_set hN hNr hx (L2.pe_ix ix_list (L2.pe_var (i := j) hNj hv hd hcd) hb hs) hsw hf)
    fun D σ H ⟨B, Wd, fr, frv, ρ, D0, hl, s, hx, q1, q2, q3, q4, q5⟩ => by
    obtain ⟨⟨c0, hc0⟩, hx⟩ := hx
    obtain ⟨_, _, v0, _, hv0, _⟩ := slot_own hl s hc0
    refine ⟨v0, hv0, B, Wd, fr, frv, ρ, _, D0.ex, hl, s, hx, fun o ρ1 vi H1 k1 s1 => ?_, q5 σ⟩
    split at k1
    · rename_i c os i hsl hi
      obtain ⟨w1, w2⟩ := slotL_some hsl
      cases hix : ixN os.length i with
      | none => rw [hix] at k1; exact k1.elim
      | some k =>
        rw [hix] at k1
        simp only at k1
        split at k1
        · rename_i o1 hk
          obtain ⟨a, avs, v, z1, z2, z3, z4, z5⟩ := Sim.take (r := r) s1.drop hl w1 w2 hk
          rw [hv0] at z1
          cases z1
          have hvi : vi = .int i := by
            obtain ⟨S2, _, _, rr⟩ := s1.rep
            rw [hi] at rr
            exact rr
          have hat : atI avs i = some v := by
            unfold L2.atI
            rw [← z3, hix]
            exact z4
          exact ⟨a, avs, i, v, rfl, hvi, SqL.of z2, hat, q1 _ _ _ (k1 v) z5⟩
        · exact k1.elim
    · exact k1.elim
end
end TL
namespace TL
open PySem PySem.Spec PyProof.Rows L2
section
variable {K : PySem.W.Frag} {H S : Hp}
end
section
variable {X : Cx} {W : L2.WX} {pos p3 p4 p5 p6 p7 apos cpos : Pos} {n nr : Str} {i : Int} {k2 : Nat}
end
end TL
namespace TL
open PySem PySem.Spec PyProof.Rows L2
def xDNew : XE := fun ρ K _ => K (.dic [] []) ρ
def keyT : T → Option Key
  | .int i => some (.inl i)
  | .str s => some (.inr s)
  | _ => none
def keyO : Key → T
  | .inl i => .int i
  | .inr s => .str s
/-- the keys and values with one more, or another value at a key -/
def putT (ks : List Key) (ts : List T) (k : Key) (t : T) : List Key × List T := if (ks.any fun c => decide (c = k)) = true then (ks, (ks.zip ts).map fun p => if p.1 = k then t else p.2) else (ks ++ [k], ts ++ [t])
/-- x[y] = e, where x is an owned dict -/
def xDPut (j : Nat) (y x : XE) : XS := fun D ρ => x ρ (fun ov ρ1 => (∃ c, ρ1[j]? = some (some c)) ∧ y ρ1 (fun oy ρ2 => ∃ c ks ts k, ρ2[j]? = some (some c) ∧ c.un = .dic ks (ts.map .sh) ∧ ks.length = ts.length ∧ ks.length < sizeLine ∧ keyT oy.t = some k ∧ D.nx (ρ2.set j (some (c.re (.dic (putT ks ts k ov.t).1 ((putT ks ts k ov.t).2.map .sh)))))) noZ) D.ex
/-- list(d) -/
def listDT : T → (O → Prop) → Prop
  | .dic ks ts, Q => Q (.lst (ks.map fun k => .sh (keyO k)))
  | _, _ => False
def xIndex (x y : XE) : XE := fun ρ K Z => x ρ (fun o ρ1 => ∃ ss : List Str, o.t = .lst (ss.map .str) ∧ y ρ1 (fun oy ρ2 => ∃ (z : Str) (j : Nat), oy.t = .str z ∧ ss[j]? = some z ∧ (∀ m < j, ss[m]? ≠ some z) ∧ K (.sh (.int (j : Nat))) ρ2) Z) Z
section
variable {K : PySem.W.Frag} {B Wd H S : Hp} {os : List O} {vs : List V} {f : List Addr}
theorem Smo.setD {ks : List Key} {os xs : List O} {a : Addr} {va : List V} (h : Smo K B Wd (.dic ks os :: xs) (.ref a :: va) H) : ∃ vs, H a = some (.dK (ks.zip vs)) ∧ ks.length = os.length ∧ os.length = vs.length ∧
    ∀ (ks' : List Key) (os' xs' : List O) (vs' va' : List V), ks'.length = os'.length → (∀ H' S f g, Same B S → Owns K H' S os vs f → Owns K H' S xs va g → ∃ f' g' r, Owns K H' S os' vs' f' ∧ Owns K H' S xs' va' g' ∧ (f ++ g).Perm (f' ++ g' ++ r)) →
      Smo K B Wd (.dic ks' os' :: xs') (.ref a :: va') (upd H a (.dK (ks'.zip vs'))) := by
  obtain ⟨S, f, h1, h2, h3, ⟨v, r, f1, f2, e1, ⟨a', vs, fq, e2, e3, ek, e4, e5⟩, e6, e7⟩, h5, h6, h7⟩ := h
  cases e1
  cases e2
  refine ⟨vs, e3, ek, (Owns.len e4).1, fun ks' os' xs' vs' va' ekl hh => ?_⟩
  subst e5 e7
  have hf : a ∉ fq ++ f2 := (List.nodup_cons.mp (by simpa using h5)).1
  have sa := h6 a (by simp)
  have keep : ∀ b ∈ fq ++ f2, upd H a (.dK (ks'.zip vs')) b = H b := fun b hb => upd_ne fun z => hf (z ▸ hb)
  obtain ⟨f', g', rr, o1, o2, pm⟩ := hh (upd H a (.dK (ks'.zip vs'))) S fq f2 h1 (e4.mono (Same.refl _) fun b hb => keep b (List.mem_append_left _ hb)) (e6.mono (Same.refl _) fun b hb => keep b (List.mem_append_right _ hb))
  have nd : (a :: (f' ++ g')).Nodup := by
    rw [List.nodup_cons]
    have h5' : (a :: (fq ++ f2)).Nodup := by simpa using h5
    exact ⟨fun z => hf (pm.mem_iff.mpr (List.mem_append_left _ z)), (List.nodup_append.mp (pm.nodup_iff.mp (List.nodup_cons.mp h5').2)).1⟩
  refine ⟨S, a :: (f' ++ g'), h1, fun b u q => ?_, fun b u q => ?_, ⟨_, _, a :: f', g', rfl, ⟨a, vs', f', rfl, upd_same, ekl, o1, rfl⟩, o2, by simp⟩, nd, fun b hb => ?_, h7⟩
  · rw [upd_ne fun z => by rw [z, sa.1] at q; cases q]
    exact h2 b u q
  · rw [upd_ne fun z => by rw [z, sa.2] at q; cases q]
    exact h3 b u q
  · rcases List.mem_cons.mp hb with rfl | hb
    · exact sa
    · exact h6 b (by simp; exact .inr (by simpa using pm.mem_iff.mpr (List.mem_append_left _ hb)))
end
section
variable {K : PySem.W.Frag} {B Wd H : Hp} {os : List O} {fr ρ : R} {frv σ : L2.St} {c : O} {j : Nat} {t : T} {v : V} {ks : List Key} {ts : List T} {k : Key}
end
end TL
namespace TL
open PySem PySem.Spec PyProof.Rows L2
section
variable {j r : Nat} {x : XE} {rest : XS} {D : ED} {ρ : R}
def takeE (os : List O) (c : O) (j r k : Nat) (ρ : R) [d : Kb (R → Prop)] : Prop := ∃ o, os[k]? = some o ∧ ∀ v, d.k ((ρ.set j (some (c.re (.lst (os.set k (.sh (.adr v))))))).set r (some (.io v o)))
@[simp ↓] theorem w_xTake : xTake j r x D ρ = ((∃ c, ρ[j]? = some (some c)) ∧ x ρ (fun oi ρ1 => slE ρ1[j]? (c := ⟨fun c => lstE c (c := ⟨fun os => intE oi.t (c := ⟨fun i => optE (ixN os.length i) (c := ⟨fun k => takeE os c j r k ρ1 (d := ⟨D.nx⟩)⟩)⟩)⟩)⟩)) D.ex) := by
  unfold xTake slotL slE lstE intE optE takeE
  congr 1
  congr 1
  funext o ρ1
  cases ρ1[j]? with
  | none => rfl
  | some q => cases q with
    | none => rfl
    | some c =>
      dsimp only
      cases c.un <;> first
        | rfl
        | (rename_i os
           cases o.t <;> first
            | rfl
            | (rename_i i
               dsimp only
               cases ixN os.length i with
               | none => rfl
               | some k =>
                 dsimp only
                 cases os[k]? with
                 | none => simp
                 | some o1 => simp))
def putE (j r : Nat) (rest : XS) (ρ : R) [d : Kb ED] : Prop := xPut j r rest d.k ρ
@[simp ↓] theorem w_xPut : xPut j r rest D ρ = putE j r rest ρ (d := ⟨D⟩) := rfl
theorem putI {c : O} {os : List O} (k : Nat) (v : V) (o : O) (h1 : ρ[j]? = some (some c)) (h2 : c.un = .lst os) (h3 : os[k]? = some (.sh (.adr v))) (h4 : ρ[r]? = some (some (.io v o)))
    (h5 : rest D ((ρ.set j (some (c.re (.lst (os.set k o))))).set r none)) : putE j r rest ρ (d := ⟨D⟩) := ⟨c, os, k, v, o, h1, h2, h3, h4, h5⟩
end
section
variable {j : Nat} {x y : XE} {D : ED} {ρ : R} {K : O → R → Prop} {Z : ZC} {ks : List Key} {os : List O} {ts : List T} {Q : O → Prop}
@[simp ↓] theorem w_xDNew : xDNew ρ K Z = K (.dic [] []) ρ := rfl
def dputE (j : Nat) (v y : T) (ρ : R) [k : Kb (R → Prop)] : Prop := ∃ c ks ts ky, ρ[j]? = some (some c) ∧ c.un = .dic ks (ts.map .sh) ∧ ks.length = ts.length ∧ ks.length < sizeLine ∧ keyT y = some ky ∧ k.k (ρ.set j (some (c.re (.dic (putT ks ts ky v).1 ((putT ks ts ky v).2.map .sh)))))
@[simp ↓] theorem w_xDPut : xDPut j y x D ρ = x ρ (fun ov ρ1 => (∃ c, ρ1[j]? = some (some c)) ∧ y ρ1 (fun oy ρ2 => dputE j ov.t oy.t ρ2 (k := ⟨D.nx⟩)) noZ) D.ex := rfl
@[simp] theorem v_listDT : op1E listDT (.dic ks ts) (c := ⟨Q⟩) = Q (.lst (ks.map fun k => .sh (keyO k))) := rfl
def idxE (t : T) [k : Kb (List Str → Prop)] : Prop := ∃ ss : List Str, t = .lst (ss.map .str) ∧ k.k ss
def idx2E (ss : List Str) (t : T) [k : Kb (O → Prop)] : Prop := ∃ (z : Str) (j : Nat), t = .str z ∧ ss[j]? = some z ∧ (∀ m < j, ss[m]? ≠ some z) ∧ k.k (.sh (.int (j : Nat)))
@[simp ↓] theorem w_xIndex : xIndex x y ρ K Z = x ρ (fun o ρ1 => idxE o.t (k := ⟨fun ss => y ρ1 (fun oy ρ2 => idx2E ss oy.t (k := ⟨fun o => K o ρ2⟩)) Z⟩)) Z := rfl
@[simp] theorem nameE_dic {i : Nat} {f : O → R → Prop} : nameE (.dic ks os) ρ i (c := ⟨f⟩) = onR (ρ.set i (some (.sh (.dic ks (O.ts os))))) (c := ⟨f (.sh (.dic ks (O.ts os)))⟩) := rfl
@[simp] theorem ot_dic : O.t (.dic ks os) = .dic ks (O.ts os) := rfl
end
end TL
namespace TL
open PySem PySem.Spec PyProof.Rows L2
theorem type_list_index : typeOf (.builtin "list.index") = pure (.type "method_descriptor") := by show builtinType _ = _; rw [builtinType_eq_fast]; kernel_rfl
section
variable {X : Cx} {W : L2.WX} {o b e : Expr} {pos pos' p apos cpos : Pos} {x y : XE} {n : Str}
theorem pe_index (ho : PEt X W o x) (ha : PEt X W e y)
    (hbase : attributeBase o "index" X.env (eval o X.env) = eval o X.env := by rfl)
    (hfew : ((backTo cpos (starEach [e] X.env)).all (fun x => !x.1) && (backToKw cpos (keywordEach [] X.env)).all (fun x => x.1.isSome)
      && decide (([e] : List Expr).length + ([] : List Keyword).length + (if ([] : List Keyword).isEmpty then 0 else 1) < 30)) = true := by rfl)
    (hline : (apos.endLine == cpos.line) = true := by rfl) (hs : starEach [e] X.env = (false, eval e X.env) :: starEach [] X.env := by rfl) (hplain : (backTo cpos (starEach [] X.env)).any (·.1) = false := by rfl) :
    PEt X W (.Call (.Attribute o "index" apos) [e] [] cpos) (xIndex x y) :=
  PE.imp (L2.pe_bm PySem.F.plainAttrs_list PySem.F.slot_list_index type_list_index mt_index ho (L2.pa_cons ha L2.pa_nil hs) hbase hfew hline hs hplain) fun σ H Q ⟨B, Wd, fr, frv, ρ, K0, Z0, hl, s, hx, hK, hZ⟩ => by
    refine ⟨B, Wd, fr, frv, ρ, _, Z0, hl, s, hx, fun oa ρ1 va H1 k1 s1 => ?_, hZ⟩
    obtain ⟨ss, es, hy⟩ := k1
    obtain ⟨S1, b1, e1, r1⟩ := s1.rep
    rw [es] at r1
    obtain ⟨a, vs, rfl, ha, rr⟩ := r1
    have hvs : ∀ (ss : List Str) (vs : List V), Reps X.K S1 (ss.map .str) vs → vs = ss.map V.str := fun ss => by
      induction ss with
      | nil => intro vs h; exact h
      | cons c ss ih => intro vs h; obtain ⟨v, r, rfl, h1, h2⟩ := h; rw [show v = V.str c from h1, ih r h2]; rfl
    have hvs := hvs ss vs rr
    subst hvs
    refine ⟨.inl ⟨rfl, _, SqL.of (e1 _ _ ha)⟩, B, Wd, some oa :: fr, some (.ref a) :: frv, ρ1, _, Z0, by simp [hl], s1, hy, fun oy ρ2 vy H2 k2 s2 => ?_, hZ.push⟩
    obtain ⟨z, j, ez, hj, hno, k3⟩ := k2
    have hvy : vy = .str z := by
      obtain ⟨S2, _, _, rr⟩ := s2.rep
      rw [ez] at rr
      exact rr
    subst hvy
    obtain ⟨S3, c1, c2, r3⟩ := s2.drop.rep
    rw [es] at r3
    obtain ⟨a', vs', ea, ha', rr'⟩ := r3
    cases ea
    have hvs' : ∀ (ss : List Str) (vs : List V), Reps X.K S3 (ss.map .str) vs → vs = ss.map V.str := fun ss => by
      induction ss with
      | nil => intro vs h; exact h
      | cons c ss ih => intro vs h; obtain ⟨v, r, rfl, h1, h2⟩ := h; rw [show v = V.str c from h1, ih r h2]; rfl
    have hvs' := hvs' ss vs' rr'
    subst hvs'
    refine ⟨a, ss.map V.str, .str z, j, .str z, rfl, rfl, SqL.of (c2 _ _ ha'), rfl, by simp [flatV], by rw [List.getElem?_map, hj]; rfl, by simp [eqV], fun m z' hm hz' => ?_, ?_⟩
    · rw [List.getElem?_map] at hz'
      cases q : ss[m]? with
      | none => rw [q] at hz'; cases hz'
      | some w =>
        rw [q] at hz'
        cases hz'
        have : w ≠ z := fun e => hno m hm (by rw [q, e])
        simpa [eqV] using this
    · exact hK _ _ _ _ k3 (s2.drop.drop.push fun _ => rfl)
end
end TL
namespace TL
open PySem PySem.Spec PyProof.Rows L2
namespace Rd
end Rd
end TL
namespace TL
open PySem PySem.Spec PyProof.Rows L2
namespace Rd
/-- form_depth: slots 0 form, 1 greatest, 2 waiting, 3 node, 4 depth -/
def x_form_depth : XS := xSeq (xAsg (xC (.int 0)) (gN 1)) (xSeq (xAsg (xLst (xCons (xTup (xCons (xName 0) (xCons (xC (.int 1)) (xNil)))) (xNil))) (gN 2)) (xSeq (xWhile (xBorT (xTru (xName 2))) (xSeq (xAsg (xPop 2) (gT 2 (gsCons (gN 3) (gsCons (gN 4) (gsNil))))) (xSeq (xIfS (x2T (intT fun i j => decide (j < i)) (xName 4) (xName 1)) (xAsg (xName 4) (gN 1)) (xNext)) (xIfS (xOr (x2T eqT (x2 ixT (xName 3) (xC (.int 0))) (xC (.str "fn"))) (x2T eqT (x2 ixT (xName 3) (xC (.int 0))) (xC (.str "pair")))) (xSeq (xExp (xApp 2 (xCons (xTup (xCons (x2 ixT (xName 3) (xC (.int 2))) (xCons (x2 addT (xName 4) (xC (.int 1))) (xNil)))) (xNil)))) (xExp (xApp 2 (xCons (xTup (xCons (x2 ixT (xName 3) (xC (.int 1))) (xCons (x2 addT (xName 4) (xC (.int 1))) (xNil)))) (xNil))))) (xIfS (x2T eqT (x2 ixT (xName 3) (xC (.int 0))) (xC (.str "seal"))) (xExp (xApp 2 (xCons (xTup (xCons (x2 ixT (xName 3) (xC (.int 1))) (xCons (x2 addT (xName 4) (xC (.int 1))) (xNil)))) (xNil)))) (xNext)))))) (xRet (xName 1))))
/-- form_size: slots 0 form -/
def x_form_size (g_preorder : PF) : XS := xRet (xB ((un1 lenT)) (xCons (xCall g_preorder (xCons (xName 0) (xNil))) (xNil)))
/-- _law_deep_form: slots 0 store, 1 leaf, 2 depth, 3 form, 4 turn, 5 way, 6 word -/
def x__law_deep_form (g__law_take : IF) : XS := xSeq (xAsg (xName 1) (gN 3)) (xSeq (xFor (xRng1 (xCons (x2 subT (xName 2) (xC (.int 1))) (xNil))) (gN 4) (xSeq (xAsg (xCallI 0 g__law_take (xCons (xC (.int 5)) (xNil))) (gN 5)) (xIfS (x2T eqT (xName 5) (xC (.int 0))) (xAsg (xTup (xCons (xC (.str "seal")) (xCons (xName 3) (xNil)))) (gN 3)) (xSeq (xAsg (x2 ixT (xLst (xCons (xC (.str "fn")) (xCons (xC (.str "pair")) (xNil)))) (x2 modT (xB ((un1 toIntT)) (xCons (xName 5) (xNil))) (xC (.int 2)))) (gN 6)) (xIfS (x2T (intT fun i j => decide (i < j)) (xName 5) (xC (.int 3))) (xAsg (xTup (xCons (xName 6) (xCons (xName 1) (xCons (xName 3) (xNil))))) (gN 3)) (xAsg (xTup (xCons (xName 6) (xCons (xName 3) (xCons (xName 1) (xNil))))) (gN 3))))))) (xRet (xName 3)))
/-- _law_wide_form: slots 0 store, 1 leaf, 2 nodes, 3 row, 4 k, 5 turn, 6 word, 7 out -/
def x__law_wide_form (g__law_pick : IF) : XS := xSeq (xAsg (xLc (xRng1 (xCons (x2 divT (x2 addT (xName 2) (xC (.int 1))) (xC (.int 2))) (xNil))) (gN 4) (xYes) (xName 1) [4]) (gN 3)) (xSeq (xIfS (x2T eqT (x2 modT (xB ((un1 toIntT)) (xCons (xName 2) (xNil))) (xC (.int 2))) (xC (.int 0))) (xAsg (xTup (xCons (xC (.str "seal")) (xCons (xName 1) (xNil)))) (gIxN 3 (xNeg (xC (.int 1))))) (xNext)) (xSeq (xFor (xRng1 (xCons (xC (.int 12)) (xNil))) (gN 5) (xSeq (xIfS (xBorT (x2T (intT fun i j => decide (i < j)) (xB ((un1 lenT)) (xCons (xName 3) (xNil))) (xC (.int 2)))) ((fun D ρ => D.bk ρ)) (xNext)) (xSeq (xAsg (xCallI 0 g__law_pick (xCons (xLst (xCons (xC (.str "fn")) (xCons (xC (.str "pair")) (xNil)))) (xNil))) (gN 6)) (xSeq (xAsg (xLc (xRng1 (xCons (x2 divT (xBor (xB ((un1 lenT)) (xCons (xName 3) (xNil)))) (xC (.int 2))) (xNil))) (gN 4) (xYes) (xTup (xCons (xName 6) (xCons (xIxN 3 (x2 mulT (xC (.int 2)) (xName 4))) (xCons (xIxN 3 (x2 addT (x2 mulT (xC (.int 2)) (xName 4)) (xC (.int 1)))) (xNil))))) [4]) (gN 7)) (xSeq (xIfS (xBorT (x2T eqT (x2 modT (xB ((un1 toIntT)) (xCons (xB ((un1 lenT)) (xCons (xName 3) (xNil))) (xNil))) (xC (.int 2))) (xC (.int 1)))) (xExp (xApp 7 (xCons (xIxN 3 (xNeg (xC (.int 1)))) (xNil)))) (xNext)) (xAsg (xMov 7) (gN 3))))))) (xRet (xIxN 3 (xC (.int 0))))))
/-- _law_kids: slots 0 form -/
def x__law_kids : XS := xSeq (xIfS (x2T inT (x2 ixT (xName 0) (xC (.int 0))) (xLst (xCons (xC (.str "fn")) (xCons (xC (.str "pair")) (xCons (xC (.str "seal")) (xNil)))))) (xRet (xB ((un1 listT)) (xCons (xSl (xName 0) (xPart (xC (.int 1))) (xNoP)) (xNil)))) (xNext)) (xRet (xLst (xNil)))
/-- _law_preorder: slots 0 form, 1 out, 2 todo, 3 turn, 4 part, 5 kids, 6 k -/
def x__law_preorder (g__law_kids : PF) : XS := xSeq (xAsg (xLst (xNil)) (gN 1)) (xSeq (xAsg (xLst (xCons (xName 0) (xNil))) (gN 2)) (xSeq (xFor (xRng1 (xCons (xC (.int 100000)) (xNil))) (gN 3) (xSeq (xIfS (xBorT (x2T eqT (xB ((un1 lenT)) (xCons (xName 2) (xNil))) (xC (.int 0)))) ((fun D ρ => D.bk ρ)) (xNext)) (xSeq (xAsg (xPop 2) (gN 4)) (xSeq (xExp (xApp 1 (xCons (xName 4) (xNil)))) (xSeq (xAsg (xCall g__law_kids (xCons (xName 4) (xNil))) (gN 5)) (xFor (xRng3 (xCons (x2 subT (xB ((un1 lenT)) (xCons (xName 5) (xNil))) (xC (.int 1))) (xCons (xNeg (xC (.int 1))) (xCons (xNeg (xC (.int 1))) (xNil))))) (gN 6) (xExp (xApp 2 (xCons (x2 ixT (xName 5) (xName 6)) (xNil)))))))))) (xRet (xMov 1))))
end Rd
end TL
set_option maxHeartbeats 4000000
namespace TL
open PySem PySem.Spec PyProof.Rows L2
namespace Rd
inductive Fo where
  | kind (s : Str) | var (n : Nat) | fn (a b : Fo) | pr (a b : Fo) | sel (a : Fo)
def Fo.T : Fo → T
  | .kind s => .tup [.str "kind", .str s]
  | .var n => .tup [.str "var", .int (n : Nat)]
  | .fn a b => .tup [.str "fn", a.T, b.T]
  | .pr a b => .tup [.str "pair", a.T, b.T]
  | .sel a => .tup [.str "seal", a.T]
def Fo.w : Fo → String
  | .kind _ => "kind"
  | .var _ => "var"
  | .fn _ _ => "fn"
  | .pr _ _ => "pair"
  | .sel _ => "seal"
def Fo.kids : Fo → List Fo
  | .fn a b => [a, b]
  | .pr a b => [a, b]
  | .sel a => [a]
  | _ => []
def Fo.sz : Fo → Nat
  | .fn a b => 1 + a.sz + b.sz
  | .pr a b => 1 + a.sz + b.sz
  | .sel a => 1 + a.sz
  | _ => 1
def Fo.dep : Fo → Nat
  | .fn a b => 1 + max a.dep b.dep
  | .pr a b => 1 + max a.dep b.dep
  | .sel a => 1 + a.dep
  | _ => 1
def Fo.pre : Fo → List Fo
  | .fn a b => .fn a b :: (a.pre ++ b.pre)
  | .pr a b => .pr a b :: (a.pre ++ b.pre)
  | .sel a => .sel a :: a.pre
  | f => [f]
def Fo.ok : Fo → Prop
  | .kind s => sOk s ∧ knT (.str s) = true
  | .var n => n ≤ 9999
  | .fn a b => a.ok ∧ b.ok
  | .pr a b => a.ok ∧ b.ok
  | .sel a => a.ok
def Fo.isV : Fo → Bool
  | .var _ => true
  | _ => false
def Fos.sz (l : List Fo) : Nat := (l.map Fo.sz).sum
@[simp] theorem fos_nil : Fos.sz [] = 0 := rfl
@[simp] theorem fos_cons (a : Fo) (l : List Fo) : Fos.sz (a :: l) = a.sz + Fos.sz l := by simp [Fos.sz]
theorem fos_app (a b : List Fo) : Fos.sz (a ++ b) = Fos.sz a + Fos.sz b := by simp [Fos.sz]
theorem fo_pos (f : Fo) : 1 ≤ f.sz := by cases f <;> simp [Fo.sz] <;> omega
theorem fos_len (l : List Fo) : l.length ≤ Fos.sz l := by
  induction l with
  | nil => simp
  | cons a l ih => have := fo_pos a; simp; omega
theorem pre_len (f : Fo) : f.pre.length = f.sz := by
  induction f with
  | kind s => rfl
  | var n => rfl
  | fn a b ha hb => simp [Fo.pre, Fo.sz, ha, hb]; omega
  | pr a b ha hb => simp [Fo.pre, Fo.sz, ha, hb]; omega
  | sel a ha => simp [Fo.pre, Fo.sz, ha]; omega
theorem pre_kids (f : Fo) : f.pre = f :: f.kids.flatMap Fo.pre := by cases f <;> simp [Fo.pre, Fo.kids]
theorem kids_sz (f : Fo) : f.sz = 1 + Fos.sz f.kids := by cases f <;> simp [Fo.sz, Fo.kids] <;> omega
def g_preorder06 : GT := fun ts K _ => ∃ f : Fo, ts = [f.T] ∧ f.sz ≤ 1000000 ∧ K (.lst (f.pre.map fun g => .sh g.T))
theorem pl_preorder06 (ts : List T) (K0 : O → Prop) (Z0 : ZX) (h : g_preorder06 ts K0 Z0) : x_preorder (endP K0 Z0) (TL.slots 4 ts) := by
  obtain ⟨f, rfl, hf, hk⟩ := h
  have hz : sizeLine = 16777216 := rfl
  unfold x_preorder
  simp -implicitDefEqProofs
  refine whI (fun m ρ => ∃ (done q : List Fo) (x3 : Option O), ρ = [some (.sh f.T), some (.lst (done.map fun g => .sh g.T)), some (.lst (q.reverse.map fun g => .sh g.T)), x3] ∧ done ++ q.flatMap Fo.pre = f.pre ∧ done.length + Fos.sz q = f.sz ∧ m = Fos.sz q) ⟨_, [], [f], none, by simp, by simp, by simp, rfl⟩ ?_
  rintro m ρ ⟨done, q, x3, rfl, hd, hsz, rfl⟩
  cases q with
  | nil =>
    simp -implicitDefEqProofs
    have e : done = f.pre := by simpa using hd
    subst e
    exact hk
  | cons g q =>
    have hql := fos_len q
    have again : ∀ (N : Nat) (ds os : List O), N = g.sz → ds = (done ++ [g]).map (fun g => O.sh g.T) → os = (g.kids ++ q).reverse.map (fun g => O.sh g.T) → ∃ m', m' < N + Fos.sz q ∧ ∃ done q : List Fo, (ds = done.map (fun g => .sh g.T) ∧ os = (q.map fun g => O.sh g.T).reverse) ∧ done ++ q.flatMap Fo.pre = f.pre ∧ done.length + Fos.sz q = f.sz ∧ m' = Fos.sz q := fun N ds os hN hds hos => by
      refine ⟨_, ?_, done ++ [g], g.kids ++ q, ⟨hds, by rw [hos, List.map_reverse]⟩, ?_, ?_, rfl⟩
      · rw [fos_app, hN, kids_sz]; omega
      · rw [← hd, List.flatMap_append, List.flatMap_cons, pre_kids g]
        simp
      · have := kids_sz g
        rw [fos_app, List.length_append]
        simp at hsz ⊢
        omega
    have hsz2 : done.length + (g.sz + Fos.sz q) = f.sz := by simpa using hsz
    have hg1 := fo_pos g
    cases g <;>
      (simp -implicitDefEqProofs [Fo.T]
       refine ⟨by omega, ?_⟩
       first
        | (refine ⟨by omega, by omega, ?_⟩
           simpa [Fo.T, Fo.kids] using again _ _ _ rfl rfl rfl)
        | (refine ⟨by omega, ?_⟩
           simpa [Fo.T, Fo.kids] using again _ _ _ rfl rfl rfl)
        | simpa [Fo.T, Fo.kids] using again _ _ _ rfl rfl rfl)
def g_form_size : GT := fun ts K _ => ∃ f : Fo, ts = [f.T] ∧ f.sz ≤ 1000000 ∧ K (.sh (.int (f.sz : Nat)))
theorem pl_form_size (ts : List T) (K0 : O → Prop) (Z0 : ZX) (h : g_form_size ts K0 Z0) : x_form_size g_preorder06.pf (endP K0 Z0) (TL.slots 1 ts) := by
  obtain ⟨f, rfl, hf, hk⟩ := h
  unfold x_form_size
  simp -implicitDefEqProofs
  refine ⟨f, rfl, hf, ?_⟩
  have e := pre_len f
  simp -implicitDefEqProofs [e]
  exact hk
def mxd : List (Fo × Nat) → Nat
  | [] => 0
  | (f, d) :: r => max (d + f.dep - 1) (mxd r)
def g_form_depth : GT := fun ts K _ => ∃ f : Fo, ts = [f.T] ∧ f.sz ≤ 1000000 ∧ K (.sh (.int (f.dep : Nat)))
def fdO (q : Fo × Nat) : O := .sh (.tup [q.1.T, .int (q.2 : Nat)])
theorem dep_1 (f : Fo) : 1 ≤ f.dep := by cases f <;> simp [Fo.dep] <;> omega
theorem pl_form_depth (ts : List T) (K0 : O → Prop) (Z0 : ZX) (h : g_form_depth ts K0 Z0) : x_form_depth (endP K0 Z0) (TL.slots 5 ts) := by
  obtain ⟨f, rfl, hf, hk⟩ := h
  have hz : sizeLine = 16777216 := rfl
  have hd1 := dep_1 f
  unfold x_form_depth
  simp -implicitDefEqProofs
  refine whI (fun m ρ => ∃ (gr : Nat) (q : List (Fo × Nat)) (x3 x4 : Option O), ρ = [some (.sh f.T), some (.sh (.int (gr : Nat))), some (.lst (q.reverse.map fdO)), x3, x4] ∧ max gr (mxd q) = f.dep ∧ (∀ p ∈ q, 1 ≤ p.2) ∧ Fos.sz (q.map (·.1)) ≤ f.sz ∧ m = Fos.sz (q.map (·.1))) ⟨_, 0, [(f, 1)], none, none, by simp [fdO], by simp [mxd], by simp, by simp, rfl⟩ ?_
  rintro m ρ ⟨gr, q, x3, x4, rfl, hgr, hq1, hsz, rfl⟩
  cases q with
  | nil =>
    simp -implicitDefEqProofs
    have e : gr = f.dep := by simpa [mxd] using hgr
    subst e
    exact hk
  | cons p q =>
    obtain ⟨g, d⟩ := p
    have hql := fos_len (q.map (·.1))
    have hdp : 1 ≤ d := hq1 (g, d) (by simp)
    have hsz2 : g.sz + Fos.sz (q.map (·.1)) ≤ f.sz := by simpa using hsz
    have hg1 := fo_pos g
    have hgd := dep_1 g
    rw [List.length_map] at hql
    have again : ∀ (N : Nat) (v : Int) (os : List O), N = g.sz → v = ((max gr d : Nat) : Int) → os = ((g.kids.map fun k => (k, d + 1)) ++ q).reverse.map fdO → ∃ m', m' < N + Fos.sz (q.map (·.1)) ∧ ∃ (gr : Nat) (q : List (Fo × Nat)), (v = (gr : Nat) ∧ os = (q.map fdO).reverse) ∧ max gr (mxd q) = f.dep ∧ (∀ (a : Fo) (b : Nat), (a, b) ∈ q → 1 ≤ b) ∧ Fos.sz (q.map (·.1)) ≤ f.sz ∧ m' = Fos.sz (q.map (·.1)) := fun N v os hN hv hos => by
      have e1 : ((g.kids.map fun k => (k, d + 1)) ++ q).map (·.1) = g.kids ++ q.map (·.1) := by simp [Function.comp_def]
      refine ⟨_, ?_, max gr d, (g.kids.map fun k => (k, d + 1)) ++ q, ⟨hv, by rw [hos, List.map_reverse]⟩, ?_, ?_, ?_, rfl⟩
      · rw [e1, fos_app, hN, kids_sz]; omega
      · rw [← hgr]
        cases g <;> simp [Fo.kids, mxd, Fo.dep] at hgd ⊢ <;> omega
      · intro a b hp
        rcases List.mem_append.mp hp with hp | hp
        · obtain ⟨k, _, e⟩ := List.mem_map.mp hp
          cases e
          omega
        · exact hq1 (a, b) (List.mem_cons_of_mem _ hp)
      · rw [e1, fos_app]
        have := kids_sz g
        omega
    have hmx : ∀ b : Bool, b = decide (gr < d) → (max gr d = if b = true then d else gr) := fun b hb => by
      subst hb
      by_cases h : gr < d
      · simp [h]; omega
      · simp [h]; omega
    by_cases hlt : gr < d
    · have h2 : (gr : Int) < (d : Int) := by omega
      have e2 : ((max gr d : Nat) : Int) = (d : Int) := by omega
      cases g <;>
        (simp -implicitDefEqProofs [Fo.T, fdO, h2, hlt]
         first
          | (refine ⟨by omega, by omega, ?_⟩
             simpa [Fo.kids, fdO] using again _ _ _ rfl e2.symm rfl)
          | (refine ⟨by omega, ?_⟩
             simpa [Fo.kids, fdO] using again _ _ _ rfl e2.symm rfl)
          | simpa [Fo.kids, fdO] using again _ _ _ rfl e2.symm rfl)
    · have h2 : ¬ (gr : Int) < (d : Int) := by omega
      have e2 : ((max gr d : Nat) : Int) = (gr : Int) := by omega
      cases g <;>
        (simp -implicitDefEqProofs [Fo.T, fdO, h2, hlt]
         first
          | (refine ⟨by omega, by omega, ?_⟩
             simpa [Fo.kids, fdO] using again _ _ _ rfl e2.symm rfl)
          | (refine ⟨by omega, ?_⟩
             simpa [Fo.kids, fdO] using again _ _ _ rfl e2.symm rfl)
          | simpa [Fo.kids, fdO] using again _ _ _ rfl e2.symm rfl)
end Rd
end TL
set_option maxHeartbeats 4000000
namespace TL
open PySem PySem.Spec PyProof.Rows L2
namespace Rd
inductive Stp where
  | arg | res | one | two | inn
deriving DecidableEq
def Stp.s : Stp → String
  | .arg => "arg"
  | .res => "res"
  | .one => "one"
  | .two => "two"
  | .inn => "in"
def Stp.t (s : Stp) : T := .str (Str.ofString s.s)
def adT (at' : List Stp) : T := .tup (at'.map Stp.t)
end Rd
end TL
set_option maxHeartbeats 4000000
namespace TL
open PySem PySem.Spec PyProof.Rows L2
namespace Rd
abbrev WR := List Stp × Int × Fo
def WR.T (r : WR) : T := .tup [adT r.1, .int r.2.1, r.2.2.T]
def Fo.isLf (f : Fo) : Bool := f.kids.isEmpty
def WR.q (r : WR) : O := .sh (.tup [r.2.2.T, adT r.1, .int r.2.1])
end Rd
end TL
set_option maxHeartbeats 4000000
namespace TL
open PySem PySem.Spec PyProof.Rows L2
namespace Rd
def Gk (f : Fo) : Nat → List Fo
  | 0 => [f]
  | k + 1 => match Gk f k with
    | [] => []
    | g :: r => g.kids ++ r
theorem Gk_pre (f : Fo) : ∀ k, f.pre.drop k = (Gk f k).flatMap Fo.pre
  | 0 => by simp [Gk]
  | k + 1 => by
    have ih := Gk_pre f k
    rw [← List.drop_drop (i := 1) (j := k)]
    rw [ih]
    show _ = (match Gk f k with | [] => [] | g :: r => g.kids ++ r).flatMap Fo.pre
    cases Gk f k with
    | nil => rfl
    | cons g r => rw [List.flatMap_cons, pre_kids g, List.flatMap_append]; rfl
theorem Gk_at {f g : Fo} {k : Nat} (e : f.pre[k]? = some g) : ∃ r, Gk f k = g :: r ∧ Gk f (k + 1) = g.kids ++ r := by
  have h := Gk_pre f k
  have h1 : (f.pre.drop k)[0]? = some g := by rw [List.getElem?_drop]; simpa using e
  rw [h] at h1
  cases q : Gk f k with
  | nil => rw [q] at h1; simp at h1
  | cons g' r =>
    rw [q, List.flatMap_cons, pre_kids g'] at h1
    simp at h1
    subst h1
    refine ⟨r, rfl, ?_⟩
    show (match Gk f k with | [] => [] | g :: r => g.kids ++ r) = _
    rw [q]
theorem Gk_end (f : Fo) : Gk f f.sz = [] := by
  have h := Gk_pre f f.sz
  rw [← pre_len, List.drop_length] at h
  rw [← pre_len]
  cases q : Gk f f.pre.length with
  | nil => rfl
  | cons g r => rw [q, List.flatMap_cons, pre_kids g] at h; simp at h
def Fo.nl : Fo → Nat
  | .fn a b => a.nl + b.nl
  | .pr a b => a.nl + b.nl
  | .sel a => a.nl
  | _ => 1
/-- the form with other leaves -/
def rel : Fo → List T → T
  | .fn a b, L => .tup [.str "fn", rel a (L.take a.nl), rel b (L.drop a.nl)]
  | .pr a b, L => .tup [.str "pair", rel a (L.take a.nl), rel b (L.drop a.nl)]
  | .sel a, L => .tup [.str "seal", rel a L]
  | _, L => (L[0]?).getD .non
@[simp] theorem isLf_kind (s : Str) : Fo.isLf (.kind s) = true := rfl
@[simp] theorem isLf_var (n : Nat) : Fo.isLf (.var n) = true := rfl
@[simp] theorem isLf_fn (a b : Fo) : Fo.isLf (.fn a b) = false := rfl
@[simp] theorem isLf_pr (a b : Fo) : Fo.isLf (.pr a b) = false := rfl
@[simp] theorem isLf_sel (a : Fo) : Fo.isLf (.sel a) = false := rfl
def putL (vs : List T) : Fo → T
  | .var n => (vs[n]?).getD .non
  | g => g.T
@[simp] theorem putL_kind (vs : List T) (s : Str) : putL vs (.kind s) = .tup [.str "kind", .str s] := rfl
@[simp] theorem putL_var (vs : List T) (n : Nat) : putL vs (.var n) = (vs[n]?).getD .non := rfl
end Rd
end TL
set_option maxHeartbeats 4000000
namespace TL
open PySem PySem.Spec PyProof.Rows L2
@[simp] theorem cutL_t1 {α : Type} (l : List α) : cutL l none (some 1) = l.take 1 := cutL_to l 1
@[simp] theorem cutL_t2 {α : Type} (l : List α) : cutL l none (some 2) = l.take 2 := cutL_to l 2
@[simp] theorem cutL_f3 {α : Type} (l : List α) : cutL l (some 3) none = l.drop 3 := cutL_from l 3
namespace Rd
def Fo.steps : Fo → List Stp
  | .fn _ _ => [.arg, .res]
  | .pr _ _ => [.one, .two]
  | .sel _ => [.inn]
  | _ => []
def g__law_kids : GT := fun ts K _ => ∃ f : Fo, ts = [f.T] ∧ K (.lst (f.kids.map fun g => .sh g.T))
theorem pl__law_kids (ts : List T) (K0 : O → Prop) (Z0 : ZX) (h : g__law_kids ts K0 Z0) : x__law_kids (endP K0 Z0) (TL.slots 1 ts) := by
  obtain ⟨f, rfl, hk⟩ := h
  unfold x__law_kids
  cases f <;> (simp -implicitDefEqProofs [Fo.T]; simpa [Fo.kids, Fo.T] using hk)
def g__law_preorder : GT := fun ts K _ => ∃ f : Fo, ts = [f.T] ∧ f.sz ≤ 99000 ∧ K (.lst (f.pre.map fun g => .sh g.T))
theorem pl__law_preorder (ts : List T) (K0 : O → Prop) (Z0 : ZX) (h : g__law_preorder ts K0 Z0) : x__law_preorder g__law_kids.pf (endP K0 Z0) (TL.slots 7 ts) := by
  obtain ⟨f, rfl, hf, hk⟩ := h
  have hz : sizeLine = 16777216 := rfl
  unfold x__law_preorder
  simp -implicitDefEqProofs
  refine foI ?_
  simp -implicitDefEqProofs
  refine forI (fun i ρ => ∃ (done q : List Fo) (x3 x4 x5 x6 : Option O), ρ = [some (.sh f.T), some (.lst (done.map fun g => .sh g.T)), some (.lst (q.reverse.map fun g => .sh g.T)), x3, x4, x5, x6] ∧ done ++ q.flatMap Fo.pre = f.pre ∧ done.length + Fos.sz q = f.sz ∧ done.length = i) ⟨[], [f], none, none, none, none, by simp, by simp, by simp, rfl⟩ ?_ ?_
  · rintro i u ρ hu ⟨done, q, x3, x4, x5, x6, rfl, hd, hsz, hdl⟩
    obtain ⟨rfl, hi⟩ := range_at hu
    cases q with
    | nil =>
      simp -implicitDefEqProofs
      have e : done = f.pre := by simpa using hd
      subst e
      exact hk
    | cons g q =>
      have hql := fos_len q
      have hsz2 : done.length + (g.sz + Fos.sz q) = f.sz := by simpa using hsz
      have hg1 := fo_pos g
      have hks := kids_sz g
      have hkl := fos_len g.kids
      have q0 : ¬ ((q.length : Int) + 1 = 0) := by omega
      simp -implicitDefEqProofs [q0]
      refine ⟨by omega, g, rfl, ?_⟩
      simp -implicitDefEqProofs
      refine foI ?_
      simp -implicitDefEqProofs
      refine ⟨by omega, ?_⟩
      refine forI (fun j ρ => ∃ (x5 : O) (x6 : Option O), ρ = [some (.sh f.T), some (.lst ((done ++ [g]).map fun g => .sh g.T)), some (.lst (((g.kids.drop (g.kids.length - j)) ++ q).reverse.map fun g => .sh g.T)), some (.sh (.int (i : Nat))), some (.sh g.T), some x5, x6] ∧ RowO x5 (g.kids.map Fo.T)) ⟨.sh (.lst (g.kids.map Fo.T)), x6, by simp, .inr rfl⟩ ?_ ?_
      · rintro j v ρ hv ⟨x5, x6, rfl, h5⟩
        obtain ⟨rfl, hj⟩ := rangeC_at hv
        obtain ⟨k, hk1⟩ : ∃ k, g.kids.length = k + 1 + j := ⟨g.kids.length - 1 - j, by omega⟩
        have ek : ((g.kids.length : Nat) : Int) - 1 - (j : Int) = (k : Nat) := by omega
        rw [ek]
        obtain ⟨c, hc⟩ : ∃ c, g.kids[k]? = some c := ⟨g.kids[k]'(by omega), List.getElem?_eq_getElem (by omega)⟩
        rw [show g.kids.length - j = k + 1 by omega, show g.kids.length - (j + 1) = k by omega]
        have hdr : g.kids.drop k = c :: g.kids.drop (k + 1) := by
          obtain ⟨h1, h2⟩ := List.getElem?_eq_some_iff.mp hc
          rw [List.drop_eq_getElem_cons h1, h2]
        rw [hdr]
        simp -implicitDefEqProofs
        rw [nameE_row h5 rfl]
        simp -implicitDefEqProofs [hc]
        exact ⟨by omega, .inr rfl⟩
      · rintro ρ ⟨x5, x6, rfl, h5⟩
        rw [rangeC_len, Nat.sub_self, List.drop_zero]
        simp -implicitDefEqProofs
        refine ⟨done ++ [g], g.kids ++ q, ⟨by simp, by simp⟩, ?_, ?_, by simp [hdl]⟩
        · rw [← hd, List.flatMap_append, List.flatMap_cons, pre_kids g]
          simp
        · rw [fos_app, List.length_append]
          simp
          omega
  · rintro ρ ⟨done, q, x3, x4, x5, x6, rfl, hd, hsz, hdl⟩
    rw [range_len] at hdl
    exfalso
    have := fos_len q
    omega
end Rd
end TL
set_option maxHeartbeats 4000000
namespace TL
open PySem PySem.Spec PyProof.Rows L2
namespace Rd
def letS (s : Str) : Prop := ∀ c ∈ s.cps.toList, isL c = true
theorem abc_at6 (k : Nat) (hk : k < 26) : ("abcdefghijklmnopqrstuvwxyz" : Str).cps.toList[k]? = some (97 + k) := by
  have : ("abcdefghijklmnopqrstuvwxyz" : Str).cps.toList = [97, 98, 99, 100, 101, 102, 103, 104, 105, 106, 107, 108, 109, 110, 111, 112, 113, 114, 115, 116, 117, 118, 119, 120, 121, 122] := by decide +kernel
  rw [this]
  exact (show ∀ k < 26, ([97, 98, 99, 100, 101, 102, 103, 104, 105, 106, 107, 108, 109, 110, 111, 112, 113, 114, 115, 116, 117, 118, 119, 120, 121, 122] : List Nat)[k]? = some (97 + k) by decide) k hk
theorem cps_app (a b : Str) : (a ++ b).cps.toList = a.cps.toList ++ b.cps.toList := by
  show (a.cps ++ b.cps).toList = _
  simp
def g__law_letters06 : GI := fun o ts K _ => StoreOk o ∧ ∃ many : Nat, ts = [.int (many : Nat)] ∧ many ≤ 1000 ∧ ∀ s o', StoreOk o' → sOk s → letS s → s.length = many → K (.sh (.str s)) o'
theorem pl__law_letters06 (v0 : V) (o : O) (ts : List T) (K0 : O → O → Prop) (Z0 : ZX) (h : g__law_letters06 o ts K0 Z0) : x__law_letters g__law_take.pf (endI v0 K0 Z0) (some (.io v0 o) :: slots 3 ts) := by
  obtain ⟨ho, many, rfl, hm, hk⟩ := h
  unfold x__law_letters
  simp -implicitDefEqProofs
  refine foI ?_
  simp -implicitDefEqProofs
  refine ⟨by omega, ?_⟩
  refine forI (fun i ρ => ∃ (o' : O) (s : Str) (x3 : Option O), ρ = [some (.io v0 o'), some (.sh (.int (many : Nat))), some (.sh (.str s)), x3] ∧ StoreOk o' ∧ sOk s ∧ letS s ∧ s.length = i) ⟨o, "", none, rfl, ho, sOk_lit "", fun c hc => by revert hc; decide +kernel +revert, rfl⟩ ?_ ?_
  · rintro i u ρ hu ⟨o', s, x3, rfl, ho', hs, hls, hsl⟩
    obtain ⟨rfl, hi⟩ := range_at hu
    obtain ⟨cells, p, n, l, c, b, t, rfl, hp, hn⟩ := id ho'
    simp -implicitDefEqProofs
    refine ⟨ho', 26, rfl, by decide, fun k o1 ho1 h0 h1 => ?_⟩
    obtain ⟨m, rfl⟩ : ∃ m : Nat, k = m := ⟨k.toNat, by omega⟩
    have hc := abc_at6 m (by omega)
    have hlen : ("abcdefghijklmnopqrstuvwxyz" : Str).length ≤ 16777216 := by decide +kernel
    have hc2 := hc
    simp only [Array.getElem?_toList] at hc
    simp -implicitDefEqProofs [hlen, hc, hc2]
    have hone : (⟨#[97 + m]⟩ : Str).length = 1 := rfl
    refine ⟨by rw [hone]; omega, o1, s ++ ⟨#[97 + m]⟩, ⟨rfl, rfl⟩, ho1, app_ok hs ⟨by unfold PyData.strOk; simp; omega, by rw [hone]; omega⟩ (by rw [hone]; omega), fun c hc => ?_, by rw [app_len, hone, hsl]⟩
    rw [cps_app] at hc
    rcases List.mem_append.mp hc with hc | hc
    · exact hls c hc
    · have : c = 97 + m := by simpa using hc
      subst this
      unfold isL
      simp
      omega
  · rintro ρ ⟨o', s, x3, rfl, ho', hs, hls, hsl⟩
    obtain ⟨cells, p, n, l, c, b, t, rfl, hp, hn⟩ := id ho'
    simp -implicitDefEqProofs
    exact hk s _ ho' hs hls (by simpa using hsl)
/-- names of kinds -/
def kinds6 (xs : List T) : Prop := ∀ x ∈ xs, ∃ s, x = .str s ∧ (Fo.kind s).ok
def g__law_leaf06 : GI := fun o ts K _ => StoreOk o ∧ ∃ (xs : List T) (many : Int), ts = [.lst xs, .int many] ∧ 0 ≤ many ∧ many ≤ 10000 ∧ xs.length ≤ 1000000 ∧ xs ≠ [] ∧ kinds6 xs ∧ ∀ (f : Fo) o', StoreOk o' → f.ok → f.isLf = true → K (.sh f.T) o'
theorem pl__law_leaf06 (v0 : V) (o : O) (ts : List T) (K0 : O → O → Prop) (Z0 : ZX) (h : g__law_leaf06 o ts K0 Z0) : x__law_leaf g__law_take.pf g__law_pick.pf (endI v0 K0 Z0) (some (.io v0 o) :: slots 2 ts) := by
  obtain ⟨ho, xs, many, rfl, hm0, hm, hxl, hx0, hx, hk⟩ := h
  obtain ⟨cells, p, n, l, c, b, t, rfl, hp, hn⟩ := id ho
  have hxp : 0 < xs.length := List.length_pos_iff.mpr hx0
  have hxp2 : ¬ ((xs.length : Int) = 0) := by omega
  unfold x__law_leaf
  simp -implicitDefEqProofs
  by_cases m0 : 0 < many
  · simp -implicitDefEqProofs [m0, hxp2, hx0]
    refine ⟨ho, 2, rfl, by decide, fun k o1 ho1 h0 h1 => ?_⟩
    obtain ⟨cells1, p1, n1, l1, c1, b1, t1, rfl, hp1, hn1⟩ := id ho1
    by_cases k0 : k = 0
    · simp -implicitDefEqProofs [k0]
      refine ⟨ho1, many, rfl, by omega, fun k o2 ho2 h20 h21 => ?_⟩
      obtain ⟨m, rfl⟩ : ∃ m : Nat, k = m := ⟨k.toNat, by omega⟩
      simp -implicitDefEqProofs
      exact hk (.var m) o2 ho2 (by show m ≤ 9999; omega) rfl
    · simp -implicitDefEqProofs [k0]
      refine ⟨ho1, _, xs, rfl, .inl rfl, hx0, hxl, fun x hxm o2 ho2 => ?_⟩
      obtain ⟨s, rfl, hs⟩ := hx x hxm
      simp -implicitDefEqProofs
      exact hk (.kind s) o2 ho2 hs rfl
  · simp -implicitDefEqProofs [m0]
    refine ⟨ho, _, xs, rfl, .inl rfl, hx0, hxl, fun x hxm o2 ho2 => ?_⟩
    obtain ⟨s, rfl, hs⟩ := hx x hxm
    simp -implicitDefEqProofs
    exact hk (.kind s) o2 ho2 hs rfl
theorem lf_sz {f : Fo} (h : f.isLf = true) : f.sz = 1 := by cases f <;> first | rfl | cases h
def g__law_form06 : GI := fun o ts K _ => StoreOk o ∧ ∃ (xs : List T) (many steps : Int), ts = [.lst xs, .int many, .int steps] ∧ 0 ≤ many ∧ many ≤ 10000 ∧ xs.length ≤ 1000000 ∧ xs ≠ [] ∧ kinds6 xs ∧ 1 ≤ steps ∧ steps ≤ 100 ∧ ∀ (f : Fo) o', StoreOk o' → f.ok → (f.sz : Int) ≤ 2 * steps → K (.sh f.T) o'
theorem pl__law_form06 (v0 : V) (o : O) (ts : List T) (K0 : O → O → Prop) (Z0 : ZX) (h : g__law_form06 o ts K0 Z0) : x__law_form g__law_take.pf g__law_leaf06.pf g__law_pick.pf (endI v0 K0 Z0) (some (.io v0 o) :: slots 7 ts) := by
  obtain ⟨ho, xs, many, steps, rfl, hm0, hm, hxl, hx0, hx, hs0, hs, hk⟩ := h
  have hz : sizeLine = 16777216 := rfl
  unfold x__law_form
  simp -implicitDefEqProofs
  refine foI ?_
  simp -implicitDefEqProofs
  have e1 : (if (1 : Int) < steps then steps else 1) = ((steps.toNat : Nat) : Int) := by split <;> omega
  rw [e1]
  refine ⟨by omega, ?_⟩
  refine forI (fun i ρ => ∃ (o' : O) (st : List Fo) (x5 x6 x7 : Option O), ρ = [some (.io v0 o'), some (.sh (.lst xs)), some (.sh (.int many)), some (.sh (.int steps)), some (.lst (st.map fun g => .sh g.T)), x5, x6, x7] ∧ StoreOk o' ∧ (0 < i → 1 ≤ st.length) ∧ Fos.sz st ≤ i ∧ ∀ f ∈ st, f.ok) ⟨o, [], none, none, none, rfl, ho, by simp, by simp, by simp⟩ ?_ ?_
  · rintro i u ρ hu ⟨o', st, x5, x6, x7, rfl, ho', hl1, hnn, hf⟩
    obtain ⟨rfl, hi⟩ := range_at hu
    obtain ⟨cells, p, n, l, c, b, t, rfl, hp, hn⟩ := id ho'
    have hfl := fos_len st
    have hi2 : i < 100 := by omega
    have leaf : ∀ (o1 : O), StoreOk o1 → ∀ (K : O → O → Prop) (Z : ZX), (∀ (f : Fo) o2, StoreOk o2 → f.ok → f.isLf = true → K (.sh f.T) o2) → callIE g__law_leaf06 o1 [.lst xs, .int many] (c := ⟨K⟩) (z := ⟨Z⟩) := fun o1 ho1 K Z hK =>
      ⟨ho1, xs, many, rfl, hm0, hm, hxl, hx0, hx, hK⟩
    simp -implicitDefEqProofs
    by_cases e : st = []
    · subst e
      simp -implicitDefEqProofs
      refine leaf _ ho' _ _ fun f o2 ho2 hf2 hnf => ?_
      obtain ⟨cells2, p2, n2, l2, c2, b2, t2, rfl, hp2, hn2⟩ := id ho2
      simp -implicitDefEqProofs
      exact ⟨_, [f], ⟨rfl, rfl⟩, ho2, by simp, by rw [fos_cons, lf_sz hnf]; simp, by simpa using hf2⟩
    · have hpos : 0 < st.length := List.length_pos_iff.mpr e
      simp -implicitDefEqProofs [hpos]
      refine ⟨ho', 5, rfl, by decide, fun k o1 ho1 k0 k1 => ?_⟩
      obtain ⟨cells1, p1, n1, l1, c1, b1, t1, rfl, hp1, hn1⟩ := id ho1
      have put : ∀ (f : Fo) (o2 : O), StoreOk o2 → f.ok → f.isLf = true → ∃ o' st', (o2 = o' ∧ (st.map fun g => O.sh g.T) ++ [O.sh f.T] = st'.map fun g => O.sh g.T) ∧ StoreOk o' ∧ 1 ≤ st'.length ∧ Fos.sz st' ≤ i + 1 ∧ ∀ f ∈ st', f.ok := fun f o2 ho2 hf2 hn2 =>
        ⟨o2, st ++ [f], ⟨rfl, by simp⟩, ho2, by simp, by rw [fos_app, fos_cons, lf_sz hn2]; simp; omega, fun g hg => by
          rcases List.mem_append.mp hg with hg | hg
          · exact hf g hg
          · rw [List.mem_singleton.mp hg]
            exact hf2⟩
      by_cases a1 : k < 2
      · simp -implicitDefEqProofs [a1]
        refine leaf _ ho1 _ _ fun f o2 ho2 hf2 hnf => ?_
        obtain ⟨cells2, p2, n2, l2, c2, b2, t2, rfl, hp2, hn2⟩ := id ho2
        simp -implicitDefEqProofs
        exact ⟨by omega, by simpa using put f _ ho2 hf2 hnf⟩
      · by_cases a2 : k < 4
        · by_cases a3 : (st.length : Int) < 2
          · simp -implicitDefEqProofs [a1, a2, a3]
            refine leaf _ ho1 _ _ fun f o2 ho2 hf2 hnf => ?_
            obtain ⟨cells2, p2, n2, l2, c2, b2, t2, rfl, hp2, hn2⟩ := id ho2
            simp -implicitDefEqProofs
            exact ⟨by omega, by simpa using put f _ ho2 hf2 hnf⟩
          · have k4 : ¬ k = 4 := by omega
            obtain ⟨r, x, y, rfl⟩ := list_two (l := st) (by omega)
            have hx2 := hf x (by simp)
            have hy2 := hf y (by simp)
            have hr2 : ∀ g ∈ r, g.ok := fun g hg => hf g (by simp [hg])
            rw [fos_app] at hnn hfl
            simp at hpos hnn hfl
            have a3' : ¬ ((r.length : Int) + 2 < 2) := by omega
            have fin : ∀ g : Fo, g.ok → g.sz = 1 + x.sz + y.sz → ∃ o' st', (sto cells1 p1 n1 l1 c1 b1 t1 = o' ∧ (r.map fun g => O.sh g.T) ++ [O.sh g.T] = st'.map fun g => O.sh g.T) ∧ StoreOk o' ∧ 1 ≤ st'.length ∧ Fos.sz st' ≤ i + 1 ∧ ∀ f ∈ st', f.ok := fun g hg hgs =>
              ⟨_, r ++ [g], ⟨rfl, by simp⟩, ho1, by simp, by rw [fos_app, fos_cons, hgs]; simp; omega, fun g' hg' => by
                rcases List.mem_append.mp hg' with hg' | hg'
                · exact hr2 g' hg'
                · rw [List.mem_singleton.mp hg']
                  exact hg⟩
            simp -implicitDefEqProofs [a1, a2, k4, a3']
            rcases (show k = 2 ∨ k = 3 by omega) with rfl | rfl
            · simp -implicitDefEqProofs
              exact ⟨by omega, by simpa [Fo.T] using fin (.fn x y) ⟨hx2, hy2⟩ rfl⟩
            · simp -implicitDefEqProofs
              exact ⟨by omega, by simpa [Fo.T] using fin (.pr x y) ⟨hx2, hy2⟩ rfl⟩
        · obtain rfl : k = 4 := by omega
          obtain ⟨r, x, rfl⟩ := list_one (l := st) (by omega)
          have hx2 := hf x (by simp)
          have hr2 : ∀ g ∈ r, g.ok := fun g hg => hf g (by simp [hg])
          rw [fos_app] at hnn hfl
          simp at hpos hnn hfl
          simp -implicitDefEqProofs
          refine ⟨by omega, _, r ++ [.sel x], ⟨rfl, by simp [Fo.T]⟩, ho1, by simp, by rw [fos_app, fos_cons]; simp [Fo.sz]; omega, fun g hg => ?_⟩
          rcases List.mem_append.mp hg with hg | hg
          · exact hr2 g hg
          · rw [List.mem_singleton.mp hg]
            exact hx2
  · rintro ρ ⟨o', st, x5, x6, x7, rfl, ho', hl1, hnn, hf⟩
    have hfl := fos_len st
    rw [range_len] at hl1 hnn
    have hl1' : 1 ≤ st.length := hl1 (by omega)
    simp -implicitDefEqProofs
    refine foI ?_
    simp -implicitDefEqProofs
    refine ⟨by omega, ?_⟩
    refine forI (fun i ρ => ∃ (o1 : O) (s2 : List Fo) (y5 y6 y7 : Option O), ρ = [some (.io v0 o1), some (.sh (.lst xs)), some (.sh (.int many)), some (.sh (.int steps)), some (.lst (s2.map fun g => .sh g.T)), y5, y6, y7] ∧ StoreOk o1 ∧ s2.length + i = st.length ∧ Fos.sz s2 ≤ Fos.sz st + i ∧ ∀ f ∈ s2, f.ok) ⟨o', st, _, _, _, rfl, ho', rfl, by simp, hf⟩ ?_ ?_
    · rintro i u ρ hu ⟨o1, s2, y5, y6, y7, rfl, ho1, hl2, hn2, hf2⟩
      obtain ⟨rfl, hi⟩ := range_at hu
      obtain ⟨r, x, y, rfl⟩ := list_two (l := s2) (by omega)
      obtain ⟨cells1, p1, n1, l1, c1, b1, t1, rfl, hp1, hn1⟩ := id ho1
      have hx2 := hf2 x (by simp)
      have hy2 := hf2 y (by simp)
      have hr2 : ∀ g ∈ r, g.ok := fun g hg => hf2 g (by simp [hg])
      rw [fos_app] at hn2
      simp at hl2 hn2
      simp -implicitDefEqProofs
      refine ⟨ho1, _, [.str "fn", .str "pair"], rfl, .inl rfl, by simp, by simp, fun w hw o2 ho2 => ?_⟩
      obtain ⟨g, hg, hgs, hgt⟩ : ∃ g : Fo, g.ok ∧ g.sz = 1 + x.sz + y.sz ∧ T.tup [w, x.T, y.T] = g.T := by
        simp at hw
        rcases hw with rfl | rfl
        · exact ⟨.fn x y, ⟨hx2, hy2⟩, rfl, rfl⟩
        · exact ⟨.pr x y, ⟨hx2, hy2⟩, rfl, rfl⟩
      obtain ⟨cells2, p2, n2, l2, c2, b2, t2, rfl, hp2, hn2'⟩ := id ho2
      simp -implicitDefEqProofs [hgt]
      refine ⟨by omega, _, r ++ [g], ⟨rfl, by simp⟩, ho2, by simp; omega, by rw [fos_app, fos_cons, hgs]; simp; omega, fun g' hg' => ?_⟩
      rcases List.mem_append.mp hg' with hg' | hg'
      · exact hr2 g' hg'
      · rw [List.mem_singleton.mp hg']
        exact hg
    · rintro ρ ⟨o1, s2, y5, y6, y7, rfl, ho1, hl2, hn2, hf2⟩
      rw [range_len] at hl2 hn2
      obtain ⟨g, rfl⟩ : ∃ g, s2 = [g] := by
        have : s2.length = 1 := by omega
        exact List.length_eq_one_iff.mp this
      obtain ⟨cells1, p1, n1, l1, c1, b1, t1, rfl, hp1, hn1⟩ := id ho1
      simp -implicitDefEqProofs
      exact hk g _ ho1 (hf2 g (by simp)) (by simp at hn2; omega)
end Rd
end TL
set_option maxHeartbeats 4000000
namespace TL
open PySem PySem.Spec PyProof.Rows L2
namespace Rd
def Fo.gr (f : Fo) : Prop := f.pre.any Fo.isV = false
def g__law_deep_form : GI := fun o ts K _ => StoreOk o ∧ ∃ (s : Str) (d : Nat), ts = [(Fo.kind s).T, .int (d : Nat)] ∧ (Fo.kind s).ok ∧ 1 ≤ d ∧ d ≤ 900 ∧ ∀ (g : Fo) o', StoreOk o' → g.ok → g.gr → g.sz ≤ 2 * d → K (.sh g.T) o'
theorem fos_split (l : List Fo) (k : Nat) : Fos.sz (l.take k) + Fos.sz (l.drop k) = Fos.sz l := by rw [← fos_app, List.take_append_drop]
def wf_rest (g__law_pick : IF) : XS := xSeq (xFor (xRng1 (xCons (xC (.int 12)) (xNil))) (gN 5) (xSeq (xIfS (xBorT (x2T (intT fun i j => decide (i < j)) (xB ((un1 lenT)) (xCons (xName 3) (xNil))) (xC (.int 2)))) ((fun D ρ => D.bk ρ)) (xNext)) (xSeq (xAsg (xCallI 0 g__law_pick (xCons (xLst (xCons (xC (.str "fn")) (xCons (xC (.str "pair")) (xNil)))) (xNil))) (gN 6)) (xSeq (xAsg (xLc (xRng1 (xCons (x2 divT (xBor (xB ((un1 lenT)) (xCons (xName 3) (xNil)))) (xC (.int 2))) (xNil))) (gN 4) (xYes) (xTup (xCons (xName 6) (xCons (xIxN 3 (x2 mulT (xC (.int 2)) (xName 4))) (xCons (xIxN 3 (x2 addT (x2 mulT (xC (.int 2)) (xName 4)) (xC (.int 1)))) (xNil))))) [4]) (gN 7)) (xSeq (xIfS (xBorT (x2T eqT (x2 modT (xB ((un1 toIntT)) (xCons (xB ((un1 lenT)) (xCons (xName 3) (xNil))) (xNil))) (xC (.int 2))) (xC (.int 1)))) (xExp (xApp 7 (xCons (xIxN 3 (xNeg (xC (.int 1)))) (xNil)))) (xNext)) (xAsg (xMov 7) (gN 3))))))) (xRet (xIxN 3 (xC (.int 0))))
def wf_all (g__law_pick : IF) : XS := xSeq (xAsg (xLc (xRng1 (xCons (x2 divT (x2 addT (xName 2) (xC (.int 1))) (xC (.int 2))) (xNil))) (gN 4) (xYes) (xName 1) [4]) (gN 3)) (xSeq (xIfS (x2T eqT (x2 modT (xB ((un1 toIntT)) (xCons (xName 2) (xNil))) (xC (.int 2))) (xC (.int 0))) (xAsg (xTup (xCons (xC (.str "seal")) (xCons (xName 1) (xNil)))) (gIxN 3 (xNeg (xC (.int 1))))) (xNext)) (wf_rest g__law_pick))
theorem ixN_m1 (n : Nat) (h : 0 < n) : ixN n (-1) = some (n - 1) := by
  unfold ixN
  rw [if_neg (by decide), if_pos (by omega)]
  congr 1
  omega
def g__law_wide_form : GI := fun o ts K _ => StoreOk o ∧ ∃ (s : Str) (n : Nat), ts = [(Fo.kind s).T, .int (n : Nat)] ∧ (Fo.kind s).ok ∧ 1 ≤ n ∧ n ≤ 900 ∧ ∀ (g : Fo) o', StoreOk o' → g.ok → g.gr → g.sz ≤ n + 2 → K (.sh g.T) o'
end Rd
end TL
set_option maxHeartbeats 4000000
namespace TL
open PySem PySem.Spec PyProof.Rows L2
namespace Rd
end Rd
end TL
set_option maxHeartbeats 4000000
namespace TL
open PySem PySem.Spec PyProof.Rows L2
namespace Rd
end Rd
end TL
set_option maxHeartbeats 4000000
namespace TL
open PySem PySem.Spec PyProof.Rows L2
namespace Rd
end Rd
end TL
set_option maxHeartbeats 4000000
namespace TL
open PySem PySem.Spec PyProof.Rows L2
namespace Rd
end Rd
end TL
set_option maxHeartbeats 4000000
namespace TL
open PySem PySem.Spec PyProof.Rows L2
namespace Rd
/-- how many signs a word and a text at a place have in common -/
def cmn (L : List Nat) : List Nat → Nat → Nat
  | [], _ => 0
  | c :: w, at' => if L[at']? = some c then cmn L w (at' + 1) + 1 else 0
theorem cmn_le (L : List Nat) : ∀ (w : List Nat) (a : Nat), cmn L w a ≤ w.length
  | [], _ => Nat.le_refl _
  | c :: w, a => by
    unfold cmn
    split
    · have := cmn_le L w (a + 1)
      simp
      omega
    · simp
theorem cmn_in (L : List Nat) : ∀ (w : List Nat) (a : Nat), a ≤ L.length → a + cmn L w a ≤ L.length
  | [], a, h => by simpa [cmn] using h
  | c :: w, a, h => by
    unfold cmn
    split
    · rename_i e
      have h1 := (List.getElem?_eq_some_iff.mp e).1
      have := cmn_in L w (a + 1) (by omega)
      omega
    · simpa using h
theorem cmn_all (L : List Nat) : ∀ (w : List Nat) (a : Nat), cmn L w a = w.length → (L.drop a).take w.length = w
  | [], a, h => by simp
  | c :: w, a, h => by
    unfold cmn at h
    split at h
    · rename_i e
      obtain ⟨h1, h2⟩ := List.getElem?_eq_some_iff.mp e
      have := cmn_all L w (a + 1) (by simpa using h)
      rw [List.drop_eq_getElem_cons h1, h2]
      simp [this]
    · simp at h
/-- the end of the number or name at a place -/
def numEnd (L : List Nat) (a : Nat) : Nat := if L[a]? = some 48 then a + 1 else a + cntR isG 4 (L.drop a)
def leafEnd (L : List Nat) (a : Nat) : Nat :=
  if L[a]? = some 63 then numEnd L (a + 1)
  else if cntR isL 8 (L.drop a) = 0 then a
  else a + cntR isL 8 (L.drop a) + cntR isG 2 (L.drop (a + cntR isL 8 (L.drop a)))
def leafBad (L : List Nat) (a : Nat) : Bool := decide (leafEnd L a = a) || (decide (L[a]? = some 63) && decide (leafEnd L a = a + 1))
theorem cntR_drop_le (f : Nat → Bool) (n : Nat) (L : List Nat) (a : Nat) : a ≤ L.length → a + cntR f n (L.drop a) ≤ L.length := fun h => by
  have := cntR_le f n (L.drop a)
  rw [List.length_drop] at this
  omega
theorem leafEnd_in {L : List Nat} {a : Nat} (h : a ≤ L.length) : a ≤ leafEnd L a ∧ leafEnd L a ≤ L.length := by
  unfold leafEnd
  split
  · rename_i e
    have h1 := (List.getElem?_eq_some_iff.mp e).1
    unfold numEnd
    split
    · rename_i e2
      have h2 := (List.getElem?_eq_some_iff.mp e2).1
      omega
    · have := cntR_drop_le isG 4 L (a + 1) (by omega)
      omega
  · split
    · omega
    · have h1 := cntR_drop_le isL 8 L a h
      have h2 := cntR_drop_le isG 2 L (a + cntR isL 8 (L.drop a)) h1
      omega
/-- an open bracket: "(" ahead of its sign, (head, first child), "[" -/
inductive Pnd where
  | opn | mid (fn : Bool) (a : Fo) | sel
inductive Stt where
  | want (p : List Pnd) (at' : Nat)
  | have_ (p : List Pnd) (at' : Nat) (f : Fo)
inductive Res where
  | err (at' : Nat)
  | don (f : Fo) (at' : Nat)
def wFn : List Nat := [32, 45, 62, 32]
def wPr : List Nat := [32, 42, 32]
def isPr (L : List Nat) (a : Nat) : Bool := decide (L[a]? = some 32 ∧ L[a + 1]? = some 42)
def hdF : Bool → Fo → Fo → Fo
  | true, a, b => .fn a b
  | false, a, b => .pr a b
/-- the leaf that is written from a to its end -/
def leafF (num : List Nat → Nat) (L : List Nat) (a : Nat) : Fo := if L[a]? = some 63 then .var (num ((L.drop (a + 1)).take (leafEnd L a - (a + 1)))) else .kind ⟨((L.drop a).take (leafEnd L a - a)).toArray⟩
inductive Nxt where
  | go (s : Stt)
  | fin (r : Res)
def stepM (num : List Nat → Nat) (L : List Nat) : Stt → Nxt
  | .want p a =>
    if L[a]? = some 40 then .go (.want (.opn :: p) (a + 1))
    else if L[a]? = some 91 then .go (.want (.sel :: p) (a + 1))
    else if leafBad L a = true then .fin (.err (leafEnd L a))
    else .go (.have_ p (leafEnd L a) (leafF num L a))
  | .have_ [] a f => .fin (.don f a)
  | .have_ (.opn :: p) a f =>
    if isPr L a = true then (if cmn L wPr a = 3 then .go (.want (.mid false f :: p) (a + 3)) else .fin (.err (a + cmn L wPr a)))
    else (if cmn L wFn a = 4 then .go (.want (.mid true f :: p) (a + 4)) else .fin (.err (a + cmn L wFn a)))
  | .have_ (.mid h b :: p) a f => if L[a]? = some 41 then .go (.have_ p (a + 1) (hdF h b f)) else .fin (.err a)
  | .have_ (.sel :: p) a f => if L[a]? = some 93 then .go (.have_ p (a + 1) (.sel f)) else .fin (.err a)
def Stt.at' : Stt → Nat
  | .want _ a => a
  | .have_ _ a _ => a
theorem step_go {num : List Nat → Nat} {L : List Nat} {s s' : Stt} (h : stepM num L s = .go s') (hs : s.at' ≤ L.length) : s.at' < s'.at' ∧ s'.at' ≤ L.length := by
  have key : ∀ {a c : Nat}, L[a]? = some c → a < L.length := fun e => (List.getElem?_eq_some_iff.mp e).1
  cases s with
  | want p a =>
    simp only [stepM] at h
    have ha : a ≤ L.length := hs
    obtain ⟨h1, h2⟩ := leafEnd_in ha
    split at h
    · rename_i e
      cases h
      have := key e
      exact ⟨Nat.lt_succ_self _, this⟩
    · split at h
      · rename_i e
        cases h
        have := key e
        exact ⟨Nat.lt_succ_self _, this⟩
      · split at h
        · cases h
        · rename_i e
          cases h
          unfold leafBad at e
          simp at e
          exact ⟨show a < leafEnd L a by omega, h2⟩
  | have_ p a f =>
    have ha : a ≤ L.length := hs
    cases p with
    | nil => simp [stepM] at h
    | cons q p =>
      cases q with
      | opn =>
        simp only [stepM] at h
        have g1 := cmn_in L wPr a ha
        have g2 := cmn_in L wFn a ha
        split at h
        · split at h
          · cases h
            exact ⟨show a < a + 3 by omega, show a + 3 ≤ L.length by omega⟩
          · cases h
        · split at h
          · cases h
            exact ⟨show a < a + 4 by omega, show a + 4 ≤ L.length by omega⟩
          · cases h
      | mid b x =>
        simp only [stepM] at h
        split at h
        · rename_i e
          cases h
          exact ⟨Nat.lt_succ_self _, key e⟩
        · cases h
      | sel =>
        simp only [stepM] at h
        split at h
        · rename_i e
          cases h
          exact ⟨Nat.lt_succ_self _, key e⟩
        · cases h
def runN (num : List Nat → Nat) (L : List Nat) : Nat → Stt → Res
  | 0, s => .err s.at'
  | n + 1, s => match stepM num L s with
    | .go s' => runN num L n s'
    | .fin r => r
def runM (num : List Nat → Nat) (L : List Nat) (s : Stt) : Res := runN num L (L.length - s.at' + 1) s
theorem runN_eq {num : List Nat → Nat} {L : List Nat} : ∀ (n : Nat) (s : Stt), s.at' ≤ L.length → L.length - s.at' < n → runN num L n s = runM num L s := by
  intro n
  induction n using Nat.strongRecOn with
  | _ n ih =>
    intro s hs hn
    cases n with
    | zero => omega
    | succ n =>
      unfold runM
      show (match stepM num L s with | .go s' => runN num L n s' | .fin r => r) = (match stepM num L s with | .go s' => runN num L (L.length - s.at') s' | .fin r => r)
      cases e : stepM num L s with
      | fin r => rfl
      | go s' =>
        obtain ⟨h1, h2⟩ := step_go e hs
        show runN num L n s' = runN num L (L.length - s.at') s'
        rw [ih n (by omega) s' h2 (by omega)]
        cases hk : L.length - s.at' with
        | zero => omega
        | succ k =>
          by_cases q : k + 1 = n + 1
          · have : k = n := by omega
            subst this
            exact (ih (k + 1) (by omega) s' h2 (by omega)).symm ▸ rfl
          · exact (ih (k + 1) (by omega) s' h2 (by omega)).symm
theorem run_go {num : List Nat → Nat} {L : List Nat} {s s' : Stt} (h : stepM num L s = .go s') (hs : s.at' ≤ L.length) : runM num L s = runM num L s' := by
  obtain ⟨h1, h2⟩ := step_go h hs
  unfold runM
  show (match stepM num L s with | .go s' => runN num L (L.length - s.at') s' | .fin r => r) = _
  rw [h]
  exact runN_eq _ s' h2 (by omega)
theorem run_fin {num : List Nat → Nat} {L : List Nat} {s : Stt} {r : Res} (h : stepM num L s = .fin r) : runM num L s = r := by
  unfold runM
  show (match stepM num L s with | .go s' => runN num L (L.length - s.at') s' | .fin r => r) = _
  rw [h]
def levP : List Pnd → Nat
  | [] => 0
  | .mid _ a :: p => max (p.length + 1 + a.dep) (levP p)
  | _ :: p => levP p
def nodP : List Pnd → Nat
  | [] => 0
  | .mid _ a :: p => 1 + a.sz + nodP p
  | _ :: p => 1 + nodP p
def Stt.lev : Stt → Nat
  | .want p _ => max (p.length + 1) (levP p)
  | .have_ p _ f => max (p.length + f.dep) (levP p)
def Stt.nod : Stt → Nat
  | .want p _ => nodP p
  | .have_ p _ f => f.sz + nodP p
theorem leafF_lf (num : List Nat → Nat) (L : List Nat) (a : Nat) : (leafF num L a).dep = 1 ∧ (leafF num L a).sz = 1 := by
  unfold leafF
  split <;> exact ⟨rfl, rfl⟩
/-- what the step does to levels and nodes -/
theorem step_lev {num : List Nat → Nat} {L : List Nat} {s s' : Stt} (h : stepM num L s = .go s') :
    match s, s' with
    | .want p _, .want p' _ => p'.length = p.length + 1 ∧ s'.lev = max s.lev (p.length + 2) ∧ s'.nod = s.nod + 1
    | .want p _, .have_ p' _ _ => p' = p ∧ s'.lev = s.lev ∧ s'.nod = s.nod + 1
    | .have_ p _ _, .want p' _ => p'.length = p.length ∧ s'.lev = s.lev ∧ s'.nod = s.nod
    | .have_ p _ _, .have_ p' _ _ => p'.length + 1 = p.length ∧ s'.lev = s.lev ∧ s'.nod = s.nod := by
  cases s with
  | want p a =>
    simp only [stepM] at h
    obtain ⟨l1, l2⟩ := leafF_lf num L a
    split at h
    · cases h
      simp [Stt.lev, Stt.nod, levP, nodP]
      omega
    · split at h
      · cases h
        simp [Stt.lev, Stt.nod, levP, nodP]
        omega
      · split at h
        · cases h
        · cases h
          simp [Stt.lev, Stt.nod, l1, l2]
          omega
  | have_ p a f =>
    have hd := dep_1 f
    cases p with
    | nil => simp [stepM] at h
    | cons q p =>
      cases q with
      | opn =>
        simp only [stepM] at h
        split at h
        · split at h
          · cases h
            simp [Stt.lev, Stt.nod, levP, nodP]
            omega
          · cases h
        · split at h
          · cases h
            simp [Stt.lev, Stt.nod, levP, nodP]
            omega
          · cases h
      | mid b x =>
        simp only [stepM] at h
        split at h
        · cases h
          cases b <;> (simp [Stt.lev, Stt.nod, levP, nodP, hdF, Fo.dep, Fo.sz]; omega)
        · cases h
      | sel =>
        simp only [stepM] at h
        split at h
        · cases h
          simp [Stt.lev, Stt.nod, levP, nodP, Fo.dep, Fo.sz]
          omega
        · cases h
def Fo.txt (str : Nat → List Nat) : Fo → List Nat
  | .kind s => s.cps.toList
  | .var n => 63 :: str n
  | .fn a b => 40 :: (a.txt str ++ wFn ++ b.txt str ++ [41])
  | .pr a b => 40 :: (a.txt str ++ wPr ++ b.txt str ++ [41])
  | .sel a => 91 :: (a.txt str ++ [93])
def txtP (str : Nat → List Nat) : List Pnd → List Nat
  | [] => []
  | .opn :: p => txtP str p ++ [40]
  | .mid b a :: p => txtP str p ++ [40] ++ a.txt str ++ (if b = true then wFn else wPr)
  | .sel :: p => txtP str p ++ [91]
def Stt.txt (str : Nat → List Nat) : Stt → List Nat
  | .want p _ => txtP str p
  | .have_ p _ f => txtP str p ++ f.txt str
end Rd
end TL
namespace TL
open PySem PySem.Spec PyProof.Rows L2
abbrev XJ := Str → R → (Str → R → Prop) → ZC → Prop
def xJnil : XJ := fun acc ρ K _ => K acc ρ
def xJc (x : XE) (y : XJ) : XJ := fun acc ρ K Z => x ρ (fun o ρ1 => ∃ s, o.t = .str s ∧ (acc ++ s).length ≤ sizeLine ∧ y (acc ++ s) ρ1 K Z) Z
def xFmt (x : XE) : XE := fun ρ K Z => x ρ (fun o ρ1 => match o.t with
  | .str y => y.length ≤ sizeLine ∧ K (.sh (.str y)) ρ1
  | .int i => i.natAbs.log2 < 1920 ∧ K (.sh (.str (toString i))) ρ1
  | _ => False) Z
def xJoined (y : XJ) : XE := fun ρ K Z => y Str.empty ρ (fun s ρ1 => K (.sh (.str s)) ρ1) Z
def textT : T → (O → Prop) → Prop
  | .int i, Q => i.natAbs.log2 < 1920 ∧ Q (.sh (.str (toString i)))
  | _, _ => False
def intST : T → (O → Prop) → Prop
  | .str a, Q => ∃ n, PySem.intText? a = some n ∧ a.length ≤ 640 ∧ Q (.sh (.int n))
  | _, _ => False
def xJoin (x y : XE) : XE := fun ρ K Z => x ρ (fun o ρ1 => ∃ a, o.t = .str a ∧ y ρ1 (fun oy ρ2 => ∃ ys : List Str, (oy.t = .lst (ys.map .str) ∨ oy.t = .tup (ys.map .str)) ∧ (ys.map (·.length)).sum + ys.length * a.length ≤ 16777216 ∧ K (.sh (.str (Txt.join a ys))) ρ2) Z) Z
section
variable {X : Cx} {W : L2.WX} {o e v1 v2 : Expr} {es rest : List Expr} {pos apos : Pos} {x y : XE} {j : XJ}
theorem pe_fmtT (he : PEt X W e x) : PEt X W (.FormattedValue e (-1) none pos) (xFmt x) := PE.imp (L2.pe_fmt he) fun σ H Q ⟨B, Wd, fr, frv, ρ, K0, Z0, hl, s, hx, hK, hZ⟩ => by
  refine ⟨B, Wd, fr, frv, ρ, _, Z0, hl, s, hx, fun o ρ1 v H1 k1 s1 => ?_, hZ⟩
  obtain ⟨S, _, _, rr⟩ := s1.rep
  cases q : o.t with
  | str z =>
    rw [q] at k1 rr
    exact .inl ⟨z, rr, k1.1, hK _ _ _ _ k1.2 (s1.drop.push fun _ => rfl)⟩
  | int i =>
    rw [q] at k1 rr
    exact .inr ⟨i, rr, k1.1, hK _ _ _ _ k1.2 (s1.drop.push fun _ => rfl)⟩
  | _ => rw [q] at k1; exact (show False from k1).elim
def lJ (K : PySem.W.Frag) (W : L2.WX) (y : XJ) (acc : Str) (σ : L2.St) (H : Hp) (Q : Str → Hp → Prop) : Prop := ∃ B Wd fr frv ρ K0 Z0, fr.length = frv.length ∧ Sim K B Wd (fr ++ ρ) (frv ++ σ) H ∧ y acc ρ K0 Z0 ∧
  (∀ s ρ' H', K0 s ρ' → Sim K B Wd (fr ++ ρ') (frv ++ σ) H' → Q s H') ∧ ExAt K B Wd fr frv W Z0 σ
def PJt (X : Cx) (W : L2.WX) (es : List Expr) (y : XJ) : Prop := ∃ ts, PJ X es ts ∧ ∀ acc σ H Q, lJ X.K W y acc σ H Q → tJs ts acc σ H Q
theorem pj_nil : PJt X W [] xJnil := ⟨[], .nil, fun acc σ H Q ⟨B, Wd, fr, frv, ρ, K0, Z0, hl, s, hy, hK, hZ⟩ => hK _ _ _ hy s⟩
theorem pj_cons (he : PEt X W e x) (hr : PJt X W es j) : PJt X W (e :: es) (xJc x j) := by
  obtain ⟨ts, h1, h2⟩ := hr
  refine ⟨_ :: ts, .cons he h1, fun acc σ H Q ⟨B, Wd, fr, frv, ρ, K0, Z0, hl, s, hy, hK, hZ⟩ => ?_⟩
  refine ⟨B, Wd, fr, frv, ρ, _, Z0, hl, s, hy, fun o ρ1 v H1 k1 s1 => ?_, hZ⟩
  obtain ⟨z, ez, hz, k2⟩ := k1
  obtain ⟨S, _, _, rr⟩ := s1.rep
  rw [ez] at rr
  exact ⟨z, rr, hz, h2 _ σ H1 Q ⟨B, Wd, fr, frv, ρ1, K0, Z0, hl, s1.drop, k2, hK, hZ⟩⟩
theorem pe_joinedT (h : PJt X W (v1 :: v2 :: rest) j) : PEt X W (.JoinedStr (v1 :: v2 :: rest) pos) (xJoined j) := by
  obtain ⟨ts, h1, h2⟩ := h
  exact PE.imp (L2.pe_joined h1) fun σ H Q ⟨B, Wd, fr, frv, ρ, K0, Z0, hl, s, hx, hK, hZ⟩ => h2 _ σ H _ ⟨B, Wd, fr, frv, ρ, _, Z0, hl, s, hx, fun z ρ' H' k s' => hK _ _ _ _ k (s'.push fun _ => rfl), hZ⟩
theorem textT_ok : CallT X (fun xs H Q => ∃ i, xs = [.int i] ∧ i.natAbs.log2 < 1920 ∧ Q (.str (toString i)) H) (un1 textT) := CallT.one fun B Wd S H t v K0 Q hs h2 rx back g hQ => by
  cases t <;> first
    | exact (show False from g).elim
    | skip
  exact ⟨_, congrArg (fun z => [z]) (show v = _ from rx), g.1, hQ _ _ _ g.2 (hs.flat fun _ => rfl)⟩
theorem intST_ok : CallT X (fun xs H Q => ∃ a n, xs = [.str a] ∧ PySem.intText? a = some n ∧ a.length ≤ 640 ∧ Q (.int n) H) (un1 intST) := CallT.one fun B Wd S H t v K0 Q hs h2 rx back g hQ => by
  cases t <;> first
    | exact (show False from g).elim
    | skip
  obtain ⟨n, g1, g2, g3⟩ := g
  exact ⟨_, n, congrArg (fun z => [z]) (show v = _ from rx), g1, g2, hQ _ _ _ g3 (hs.flat fun _ => rfl)⟩
theorem reps_str {K : PySem.W.Frag} {S : Hp} : ∀ (ss : List Str) (vs : List V), Reps K S (ss.map .str) vs → vs = ss.map V.str
  | [], vs, h => h
  | c :: ss, vs, h => by
    obtain ⟨v, r, rfl, h1, h2⟩ := h
    rw [show v = V.str c from h1, reps_str ss r h2]
    rfl
theorem pe_joinT (ho : PEt X W o x) (ha : PEt X W e y) (hs : starEach [e] X.env = [(false, eval e X.env)] := by rfl) (hbase : attributeBase o "join" X.env (eval o X.env) = eval o X.env := by rfl) (hline : (apos.endLine == pos.line) = true := by rfl) :
    PEt X W (.Call (.Attribute o "join" apos) [e] [] pos) (xJoin x y) :=
  PE.imp (L2.pe_join ho ha hs hbase hline) fun σ H Q ⟨B, Wd, fr, frv, ρ, K0, Z0, hl, s, hx, hK, hZ⟩ => by
    refine ⟨B, Wd, fr, frv, ρ, _, Z0, hl, s, hx, fun oa ρ1 va H1 k1 s1 => ?_, hZ⟩
    obtain ⟨a, ea, hy⟩ := k1
    have hva : va = .str a := by
      obtain ⟨S1, _, _, rr⟩ := s1.rep
      rw [ea] at rr
      exact rr
    refine ⟨⟨a, hva⟩, B, Wd, some oa :: fr, some va :: frv, ρ1, _, Z0, by simp [hl], s1, hy, fun oy ρ2 vy H2 k2 s2 => ?_, hZ.push⟩
    obtain ⟨ys, ey, hsz, k3⟩ := k2
    obtain ⟨S2, b2, e2, r2⟩ := s2.rep
    rcases ey with ey | ey
    · rw [ey] at r2
      obtain ⟨p, vs, rfl, hp, rr⟩ := r2
      have := reps_str ys vs rr
      subst this
      exact ⟨a, p, ys, hva, rfl, .inl (SqL.of (e2 _ _ hp)), hsz, hK _ _ _ _ k3 (s2.drop.drop.push fun _ => rfl)⟩
    · rw [ey] at r2
      obtain ⟨p, vs, rfl, hp, rr⟩ := r2
      have := reps_str ys vs rr
      subst this
      exact ⟨a, p, ys, hva, rfl, .inr (SqT.of (e2 _ _ hp)), hsz, hK _ _ _ _ k3 (s2.drop.drop.push fun _ => rfl)⟩
end
end TL
namespace TL
open PySem PySem.Spec PyProof.Rows L2
def xDispA (keys : List Str) (y : XA) : XE := fun ρ K Z => y ρ (fun os ρ1 => os.length = keys.length ∧ K (.sh (.dic (keys.map Sum.inr) (O.ts os))) ρ1) Z
def lP (K : PySem.W.Frag) (W : L2.WX) (ks : List Str) (y : XA) (σ : L2.St) (H : Hp) (Q : List (V × V) → Hp → Prop) : Prop := ∃ B Wd fr frv ρ K0 Z0, fr.length = frv.length ∧ Sim K B Wd (fr ++ ρ) (frv ++ σ) H ∧ y ρ K0 Z0 ∧
  (∀ os ρ' vs H', os.length = vs.length → K0 os ρ' → Sim K B Wd (os.map some ++ (fr ++ ρ')) (vs.map some ++ (frv ++ σ)) H' → Q ((ks.map V.str).zip vs) H') ∧ ExAt K B Wd fr frv W Z0 σ
def PPt (X : Cx) (W : L2.WX) (pos : Pos) (keys : List (Option Expr)) (values : List Expr) (ks : List Str) (y : XA) : Prop := ∃ trs, PPs X pos keys values trs ∧ ∀ σ H Q, lP X.K W ks y σ H Q → tPairs trs σ H Q
theorem putK_new {acc : List (Key × V)} {k : Key} {v : V} (h : k ∉ acc.map Prod.fst) : putK acc k v = acc ++ [(k, v)] := by
  unfold putK
  rw [if_neg]
  intro z
  obtain ⟨p, hp, e⟩ := List.any_eq_true.mp z
  have : p.1 = k := by simpa using e
  exact h (List.mem_map.mpr ⟨p, hp, this⟩)
theorem mergeK_new : ∀ (kvs acc : List (Key × V)), (acc.map Prod.fst ++ kvs.map Prod.fst).Nodup → mergeK acc kvs = acc ++ kvs
  | [], acc, _ => by simp [mergeK]
  | (k, v) :: r, acc, h => by
    have h1 : k ∉ acc.map Prod.fst := fun z => by
      have := (List.nodup_append.mp h).2.2 k z k (by simp)
      exact this rfl
    have e : mergeK acc ((k, v) :: r) = mergeK (acc ++ [(k, v)]) r := by
      show mergeK (putK acc k v) r = _
      rw [putK_new h1]
    rw [e, mergeK_new r (acc ++ [(k, v)]) (by simpa using h)]
    simp
section
variable {X : Cx} {W : L2.WX} {k e : Expr} {keys : List (Option Expr)} {values : List Expr} {pos : Pos} {x : XE} {y : XA} {ks : List Str} {z : Str}
theorem ppt_nil : PPt X W pos [] [] [] xNil := ⟨[], pps_nil, fun σ H Q ⟨B, Wd, fr, frv, ρ, K0, Z0, hl, s, hy, hK, hZ⟩ => hK [] _ [] _ rfl hy (by simpa using s)⟩
theorem ppt_cons (hk : PE X k (tC (.str z))) (he : PEt X W e x) (hr : PPt X W pos keys values ks y) : PPt X W pos (some k :: keys) (e :: values) (z :: ks) (xCons x y) := by
  obtain ⟨trs, h1, h2⟩ := hr
  refine ⟨_ :: trs, pps_cons hk he h1, fun σ H Q ⟨B, Wd, fr, frv, ρ, K0, Z0, hl, s, hy, hK, hZ⟩ => ?_⟩
  show lE X.K W x σ H (fun w H2 => tPairs trs σ H2 fun ps H3 => Q ((.str z, w) :: ps) H3)
  refine ⟨B, Wd, fr, frv, ρ, _, Z0, hl, s, hy, fun o ρ1 v H1 k1 s1 => h2 σ H1 _ ⟨B, Wd, some o :: fr, some v :: frv, ρ1, _, Z0, by simp [hl], by simpa using s1, k1, fun os ρ' vs H' hlen k2 s2 => ?_, hZ.push⟩, hZ⟩
  exact hK (o :: os) ρ' (v :: vs) H' (by simp [hlen]) k2 (Sim.rot (l1 := os.map some) (v1 := vs.map some) (by simp [hlen]) (by simpa using s2))
theorem zipk : ∀ (ks : List Str) (vs : List V), (ks.map V.str).zip vs = ((ks.map (Sum.inr : Str → Key)).zip vs).map fun kv => (kV kv.1, kv.2)
  | [], vs => by simp
  | _ :: _, [] => by simp
  | z :: ks, v :: vs => by
    simp only [List.map_cons, List.zip_cons_cons]
    rw [zipk ks vs]
    rfl
theorem pe_dispA (h : PPt X W pos keys values ks y) (hn : ks.Nodup := by decide) (h15k : ks.length ≤ 15 := by decide)
    (hall : keys.all (·.isSome) = true := by rfl) (hl : keys.length = values.length := by rfl) (h0 : keys ≠ [] := by simp) (h15 : keys.length ≤ 15 := by decide) : PEt X W (.Dict keys values pos) (xDispA ks y) := by
  obtain ⟨trs, h1, h2⟩ := h
  refine PE.imp (L2.pe_disp h1 hall hl h0 h15) fun σ H Q ⟨B, Wd, fr, frv, ρ, K0, Z0, hl, s, hx, hK, hZ⟩ => ?_
  intro p hp
  obtain ⟨B', Wd', _, g2, back⟩ := Sim.front (as := []) (va := []) rfl s
  have s0 := back [.dic [] []] [.ref p] _ (g2.new hp fun H' S f ow e => by
    obtain ⟨_, rfl⟩ := ow
    exact ⟨p, [], [], rfl, e, rfl, ⟨rfl, rfl⟩, rfl⟩)
  refine h2 σ _ _ ⟨B, Wd, some (.dic [] []) :: fr, some (.ref p) :: frv, ρ, _, Z0, by simp [hl], by simpa using s0, hx, fun os ρ' vs H2 hlen k2 s2 => ?_, hZ.push⟩
  obtain ⟨ho, k3⟩ := k2
  have s3 := Sim.rot (l1 := os.map some) (v1 := vs.map some) (by simp [hlen]) (by simpa using s2)
  obtain ⟨B3, Wd3, _, g3, back3⟩ := Sim.front (as := .dic [] [] :: os) (va := .ref p :: vs) (os := fr ++ ρ') (vs := frv ++ σ) (by simp [hlen]) (by simpa using s3)
  obtain ⟨vs0, e1, e2, e3, set⟩ := g3.setD
  have e4 : vs0 = [] := List.eq_nil_of_length_eq_zero (by simpa using e3.symm)
  subst e4
  have hkl : (ks.map (Sum.inr : Str → Key)).length = os.length := by simp [ho]
  refine ⟨e1, (ks.map Sum.inr).zip vs, zipk ks vs, ?_, ?_⟩
  · rw [List.length_zip, List.length_map]
    omega
  · have nd : ((ks.map (Sum.inr : Str → Key)).zip vs).map Prod.fst = ks.map Sum.inr := List.map_fst_zip (by rw [hkl, hlen]; exact Nat.le_refl _)
    rw [mergeK_new _ [] (by
      rw [nd]
      simp only [List.map_nil, List.nil_append]
      exact List.Pairwise.map _ (fun a b h e => h (Sum.inr.inj e)) hn), List.nil_append]
    have g4 := set (ks.map Sum.inr) os [] vs [] hkl fun H' S f g b o1 o2 => by
      obtain ⟨_, rfl⟩ := o1
      exact ⟨g, [], [], o2, ⟨rfl, rfl⟩, by simp⟩
    have s4 := back3 _ _ _ g4.frz
    exact hK _ _ _ _ k3 (by simpa [O.ts, O.t] using s4)
end
end TL
namespace TL
open PySem PySem.Spec PyProof.Rows L2
def rNeH (K : PySem.W.Frag) : R2 := fun x y H Q => ∃ p q h0 vs z, x = .ref p ∧ y = .ref q ∧ SqT K H p (.str h0 :: vs) ∧ SqT K H q [.str z] ∧ Q (.bl (!(decide (h0 = z) && vs.isEmpty))) H
def neHT : T → T → (Bool → Prop) → Prop
  | .tup (.str h :: xs), .tup [.str z], Q => Q (!(decide (h = z) && xs.isEmpty))
  | _, _, _ => False
section
variable {X : Cx}
theorem op_neH (hu : X.A.units + 64 < cLine) : OpR X (compareOp .NotEq) (rNeH X.K) := by
  intro pins s σ H x y v u Q I rx ry h
  obtain ⟨p, q, h0, vs, z, rfl, rfl, hp, hq, k⟩ := h
  obtain rfl : v = Value.ref p := rx
  obtain rfl : u = Value.ref q := ry
  obtain ⟨us, r1, pt, _⟩ := I.tuple hp
  obtain ⟨ws, r2, qt, _⟩ := I.tuple hq
  cases r1 with
  | cons a1 r1 =>
    cases r2 with
    | cons a2 r2 =>
      cases r2
      obtain ⟨t1, rfl⟩ := a1
      obtain ⟨t2, rfl⟩ := a2
      rename_i l
      have hl := Paired.length r1
      refine PySem.SeqAt.RcNeAt.tuples (e := fun _ => h0 == z) pt qt (by omega) (fun j g1 g2 => ?_) X.prog X.w X.xe _ ?_
      · have e : j = 0 := by
          have : j < 1 := by simpa using g2
          omega
        subst e
        exact PySem.SeqAt.EqAt.str_str h0 t1 z t2
      · have e1 : (List.range (min (Value.str h0 t1 :: l).toArray.size (#[Value.str z t2] : Array Value).size)).all (fun _ => h0 == z) = (h0 == z) := by
          rw [show min (Value.str h0 t1 :: l).toArray.size (#[Value.str z t2] : Array Value).size = 1 by simp]
          simp [List.range_succ]
        have e2 : ((Value.str h0 t1 :: l).toArray.size == (#[Value.str z t2] : Array Value).size) = vs.isEmpty := by
          cases vs with
          | nil =>
            have : l = [] := List.eq_nil_of_length_eq_zero (by simpa using hl.symm)
            subst this
            rfl
          | cons a b =>
            simp at hl
            simp
            intro z
            subst z
            simp at hl
        rw [e1, e2]
        refine ⟨V.bl _, H, I, rfl, ?_⟩
        have e3 : (h0 == z) = decide (h0 = z) := by
          by_cases q : h0 = z
          · subst q; simp
          · simp [q]
        rw [e3]
        exact k
theorem neHT_ok : Op2 X (rNeH X.K) (gB neHT) := by
  intro B Wd H tx ty vx vy K0 Q h g hQ
  obtain ⟨S, h1, h2, rx, ry, back⟩ := h.get2
  have g : neHT tx ty fun b => K0 (.sh (.bl b)) := g
  unfold neHT at g
  split at g
  · rename_i h0 xs z g0
    obtain ⟨p, vs, rfl, hp, rr⟩ := rx
    obtain ⟨q, ws, rfl, hq, rq⟩ := ry
    obtain ⟨v1, r1, rfl, rfl, r3⟩ := rr
    obtain ⟨v2, r4, rfl, rfl, r5⟩ := rq
    have r6 : r4 = [] := r5
    subst r6
    have hem : r1.isEmpty = xs.isEmpty := by
      have := Reps.len r3
      cases xs <;> cases r1 <;> simp at this <;> rfl
    exact ⟨p, q, h0, r1, z, rfl, rfl, SqT.of (h2 _ _ hp), SqT.of (h2 _ _ hq), hQ (.sh (.bl (!(decide (h0 = z) && r1.isEmpty)))) _ _ (by rw [hem]; exact g) (h.flat fun _ => rfl)⟩
  · exact g.elim
end
end TL
namespace TL
open PySem PySem.Spec PyProof.Rows L2
def dixT (t k : T) : Option T := match t, keyT k with
  | .dic ks ts, some c => lookT ks ts c
  | _, _ => none
def xDIx (x y : XE) : XE := fun ρ K Z => x ρ (fun o ρ1 => y ρ1 (fun oy ρ2 => ∃ t, dixT o.t oy.t = some t ∧ K (.sh t) ρ2) Z) Z
section
variable {X : Cx} {W : L2.WX} {o e : Expr} {pos : Pos} {x y : XE}
theorem pe_dix (hu : X.A.units + 1 < cLine) (ho : PEt X W o x) (he : PEt X W e y) (hs : NoSl e) : PEt X W (.Subscript o e pos) (xDIx x y) := by
  refine PE.imp (L2.pe_dget hu ho he hs) fun σ H Q ⟨B, Wd, fr, frv, ρ, K0, Z0, hl, s, hx, hK, hZ⟩ => ?_
  refine ⟨B, Wd, fr, frv, ρ, _, Z0, hl, s, hx, fun oa ρ1 va H1 k1 s1 => ?_, hZ⟩
  refine ⟨B, Wd, some oa :: fr, some va :: frv, ρ1, _, Z0, by simp [hl], s1, k1, fun oy ρ2 vy H2 k2 s2 => ?_, hZ.push⟩
  obtain ⟨t, ht, k3⟩ := k2
  obtain ⟨B', Wd', _, h3, back⟩ := Sim.front (as := [oy, oa]) (va := [vy, va]) rfl s2
  obtain ⟨S, g1, g2, rs, g4⟩ := Smo.get (ts := [oy.t, oa.t]) h3.frz
  obtain ⟨v2, q2, c2, p2, v3, q3, c3, p3, _⟩ := rs
  cases c2
  cases c3
  unfold dixT at ht
  cases hd : oa.t <;> cases hk : keyT oy.t <;> rw [hd, hk] at ht <;> first
    | cases ht
    | skip
  rename_i ks ts w
  rw [hd] at p3
  obtain ⟨p, us, rfl, hp', hlen', rr'⟩ := p3
  have hvy : vy = kV w := by
    revert p2 hk
    cases oy.t <;> intro p2 hk <;> first
      | (cases hk; done)
      | skip
    · cases hk; exact p2
    · cases hk; exact p2
  have ht' : TL.lookT ks ts w = some t := ht
  rcases Reps.lookT (k := w) (ks := ks) rr' with ⟨t', v, l1, l2, l3⟩ | ⟨l1, l2⟩
  · rw [ht'] at l1
    cases l1
    have dg : DGet H2 p (kV w) (valV (ks.zip us) w) := dget_kr (k := w) (Rd.mono g2 hp')
    rw [valV_look, l2, ← hvy] at dg
    have l4 : Reps X.K S [t] [v] := ⟨v, [], rfl, l3, rfl⟩
    exact ⟨p, v, rfl, dg, hK _ _ _ _ k3 (by simpa using back _ _ _ (g4 [t] [v] l4))⟩
  · rw [ht'] at l1
    cases l1
end
end TL
namespace TL
open PySem PySem.Spec PyProof.Rows L2
@[simp] theorem emp_app (s : Str) : Str.empty ++ s = s := by
  cases s with
  | mk c =>
    show (⟨#[] ++ c⟩ : Str) = ⟨c⟩
    simp
section
variable {x y : XE} {jj : XJ} {ρ : R} {K : O → R → Prop} {KJ : Str → R → Prop} {Z : ZC} {f : O → Prop} {g : Str → Prop} {acc s a : Str} {i : Int}
def fmtE (t : T) [k : Kb (O → Prop)] : Prop := match t with
  | .str y => y.length ≤ sizeLine ∧ k.k (.sh (.str y))
  | .int i => i.natAbs.log2 < 1920 ∧ k.k (.sh (.str (toString i)))
  | _ => False
@[simp] theorem fmtE_s : fmtE (.str s) (k := ⟨f⟩) = (s.length ≤ sizeLine ∧ f (.sh (.str s))) := rfl
@[simp] theorem fmtE_i : fmtE (.int i) (k := ⟨f⟩) = (i.natAbs.log2 < 1920 ∧ f (.sh (.str (toString i)))) := rfl
@[simp ↓] theorem w_xFmt : xFmt x ρ K Z = x ρ (fun o ρ1 => fmtE o.t (k := ⟨fun o => K o ρ1⟩)) Z := rfl
def jcE (t : T) (acc : Str) [k : Kb (Str → Prop)] : Prop := ∃ s, t = .str s ∧ (acc ++ s).length ≤ sizeLine ∧ k.k (acc ++ s)
@[simp] theorem jcE_s : jcE (.str s) acc (k := ⟨g⟩) = ((acc ++ s).length ≤ sizeLine ∧ g (acc ++ s)) := propext ⟨fun ⟨_, e, h1, h2⟩ => by cases e; exact ⟨h1, h2⟩, fun h => ⟨s, rfl, h.1, h.2⟩⟩
@[simp ↓] theorem w_xJnil : xJnil acc ρ KJ Z = KJ acc ρ := rfl
@[simp ↓] theorem w_xJc : xJc x jj acc ρ KJ Z = x ρ (fun o ρ1 => jcE o.t acc (k := ⟨fun s => jj s ρ1 KJ Z⟩)) Z := rfl
@[simp ↓] theorem w_xJoined : xJoined jj ρ K Z = jj Str.empty ρ (fun s ρ1 => K (.sh (.str s)) ρ1) Z := rfl
def txE (t : T) [k : Kb (Str → Prop)] : Prop := ∃ s, t = .str s ∧ k.k s
@[simp] theorem txE_s : txE (.str s) (k := ⟨g⟩) = g s := propext ⟨fun ⟨_, e, h⟩ => by cases e; exact h, fun h => ⟨s, rfl, h⟩⟩
def joinE (a : Str) (t : T) [k : Kb (Str → Prop)] : Prop := ∃ ys : List Str, (t = .lst (ys.map .str) ∨ t = .tup (ys.map .str)) ∧ (ys.map (·.length)).sum + ys.length * a.length ≤ 16777216 ∧ k.k (Txt.join a ys)
@[simp ↓] theorem w_xJoin : xJoin x y ρ K Z = x ρ (fun o ρ1 => txE o.t (k := ⟨fun a => y ρ1 (fun oy ρ2 => joinE a oy.t (k := ⟨fun s => K (.sh (.str s)) ρ2⟩)) Z⟩)) Z := rfl
@[simp] theorem v_neHT {h z : Str} {xs : List T} {QB : Bool → Prop} : op2B neHT (.tup (.str h :: xs)) (.tup [.str z]) (c := ⟨QB⟩) = QB (!(decide (h = z) && xs.isEmpty)) := rfl
@[simp ↓] theorem w_xDispA {ks : List Str} {yy : XA} : xDispA ks yy ρ K Z = yy ρ (fun os ρ1 => os.length = ks.length ∧ K (.sh (.dic (ks.map Sum.inr) (O.ts os))) ρ1) Z := rfl
def dixE (t k : T) [c : Kb (O → Prop)] : Prop := ∃ v, dixT t k = some v ∧ c.k (.sh v)
@[simp ↓] theorem w_xDIx : xDIx x y ρ K Z = x ρ (fun o ρ1 => y ρ1 (fun oy ρ2 => dixE o.t oy.t (c := ⟨fun o => K o ρ2⟩)) Z) Z := rfl
@[simp] theorem v_textT : op1E textT (.int i) (c := ⟨f⟩) = (i.natAbs.log2 < 1920 ∧ f (.sh (.str (toString i)))) := rfl
@[simp] theorem v_intST : op1E intST (.str a) (c := ⟨f⟩) = ∃ n, PySem.intText? a = some n ∧ a.length ≤ 640 ∧ f (.sh (.int n)) := rfl
end
end TL
namespace TL
open PySem PySem.Spec PyProof.Rows L2
namespace Rd
/-- show_form: slots 0 form, 1 pieces, 2 waiting, 3 item -/
def x_show_form : XS := xSeq (xAsg (xLst (xNil)) (gN 1)) (xSeq (xAsg (xLst (xCons (xName 0) (xNil))) (gN 2)) (xSeq (xWhile (xBorT (xTru (xName 2))) (xSeq (xAsg (xPop 2) (gN 3)) (xIfS (xTru (xIsi [.str] (xName 3))) (xExp (xApp 1 (xCons (xName 3) (xNil)))) (xIfS (x2T eqT (x2 ixT (xName 3) (xC (.int 0))) (xC (.str "kind"))) (xExp (xApp 1 (xCons (x2 ixT (xName 3) (xC (.int 1))) (xNil)))) (xIfS (x2T eqT (x2 ixT (xName 3) (xC (.int 0))) (xC (.str "var"))) (xExp (xApp 1 (xCons (xJoined (xJc (xC (.str "?")) (xJc (xFmt (x2 ixT (xName 3) (xC (.int 1)))) (xJnil)))) (xNil)))) (xIfS (x2T eqT (x2 ixT (xName 3) (xC (.int 0))) (xC (.str "seal"))) (xExp (xExt 2 (xCons (xLst (xCons (xC (.str "]")) (xCons (x2 ixT (xName 3) (xC (.int 1))) (xCons (xC (.str "[")) (xNil))))) (xNil)))) (xExp (xExt 2 (xCons (xLst (xCons (xC (.str ")")) (xCons (x2 ixT (xName 3) (xC (.int 2))) (xCons (xTab kvs_SIGNS (x2 ixT (xName 3) (xC (.int 0)))) (xCons (x2 ixT (xName 3) (xC (.int 1))) (xCons (xC (.str "(")) (xNil))))))) (xNil)))))))))) (xRet (xJoin (xC (.str "")) (xName 1)))))
/-- show_row: slots 0 row, 1 left, 2 right -/
def x_show_row (g_show_form : PF) : XS := xSeq (xAsg (xName 0) (gT 2 (gsCons (gN 1) (gsCons (gN 2) (gsNil))))) (xRet (xJoined (xJc (xFmt (xCall g_show_form (xCons (xName 1) (xNil)))) (xJc (xC (.str " <= ")) (xJc (xFmt (xCall g_show_form (xCons (xName 2) (xNil)))) (xJnil))))))
/-- after_sign: slots 0 text, 1 at, 2 sign, 3 end, 4 letter -/
def x_after_sign (ga : Str → Addr) : XS := xSeq (xAsg (xName 1) (gN 3)) (xSeq (xFor (xSeqI (xName 2)) (gN 4) (xSeq (xIfS (xOr (x2T eqT (xName 3) (xB ((un1 lenT)) (xCons (xName 0) (xNil)))) (x2T neT (x2 ixT (xName 0) (xName 3)) (xName 4))) (xRaise (ga "BadText") "at" (xCons (xName 3) (xNil))) (xNext)) (xAug 3 (· + ·) (xC (.int 1))))) (xRet (xName 3)))
/-- after_name: slots 0 text, 1 at, 2 letters -/
def x_after_name (g_letters_from : PF) (g_digits_from : PF) (ga : Str → Addr) : XS := xSeq (xAsg (xCall g_letters_from (xCons (xName 0) (xCons (xName 1) (xNil)))) (gN 2)) (xSeq (xIfS (x2T eqT (xName 2) (xName 1)) (xRaise (ga "BadText") "at" (xCons (xName 1) (xNil))) (xNext)) (xRet (xCall g_digits_from (xCons (xName 0) (xCons (xName 2) (xCons (xC (.int 2)) (xNil)))))))
/-- after_number: slots 0 text, 1 at, 2 end -/
def x_after_number (g_digits_from : PF) (ga : Str → Addr) : XS := xSeq (xAsg (xCall g_digits_from (xCons (xName 0) (xCons (xName 1) (xCons (xC (.int 4)) (xNil))))) (gN 2)) (xSeq (xIfS (x2T eqT (xName 2) (xName 1)) (xRaise (ga "BadText") "at" (xCons (xName 1) (xNil))) (xNext)) (xSeq (xIfS (x2T eqT (x2 ixT (xName 0) (xName 1)) (xC (.str "0"))) (xRet (x2 addT (xName 1) (xC (.int 1)))) (xNext)) (xRet (xName 2))))
/-- middle_at: slots 0 text, 1 at, 2 start -/
def x_middle_at (g_after_sign : PF) : XS := xSeq (xAsg (xCall g_after_sign (xCons (xName 0) (xCons (xName 1) (xCons (xC (.str " ")) (xNil))))) (gN 2)) (xSeq (xIfS (x2T eqT (xSl (xName 0) (xPart (xName 2)) (xPart (x2 addT (xName 2) (xC (.int 1))))) (xC (.str "*"))) (xRet (xTup (xCons (xC (.str "pair")) (xCons (xCall g_after_sign (xCons (xName 0) (xCons (xName 2) (xCons (xC (.str "* ")) (xNil))))) (xNil))))) (xNext)) (xRet (xTup (xCons (xC (.str "fn")) (xCons (xCall g_after_sign (xCons (xName 0) (xCons (xName 2) (xCons (xC (.str "-> ")) (xNil))))) (xNil))))))
/-- leaf_at: slots 0 text, 1 at, 2 end -/
def x_leaf_at (g_after_number : PF) (g_after_name : PF) : XS := xSeq (xIfS (x2T eqT (xSl (xName 0) (xPart (xName 1)) (xPart (x2 addT (xName 1) (xC (.int 1))))) (xC (.str "?"))) (xSeq (xAsg (xCall g_after_number (xCons (xName 0) (xCons (x2 addT (xName 1) (xC (.int 1))) (xNil)))) (gN 2)) (xRet (xTup (xCons (xTup (xCons (xC (.str "var")) (xCons (xB (un1 intST) (xCons (xSl (xName 0) (xPart (x2 addT (xName 1) (xC (.int 1)))) (xPart (xName 2))) (xNil))) (xNil)))) (xCons (xName 2) (xNil)))))) (xNext)) (xSeq (xAsg (xCall g_after_name (xCons (xName 0) (xCons (xName 1) (xNil)))) (gN 2)) (xRet (xTup (xCons (xTup (xCons (xC (.str "kind")) (xCons (xSl (xName 0) (xPart (xName 1)) (xPart (xName 2))) (xNil)))) (xCons (xName 2) (xNil))))))
/-- closed_at: slots 0 text, 1 at, 2 entry, 3 form -/
def x_closed_at (g_after_sign : PF) : XS := xSeq (xIfS (x2T eqT (xB ((un1 lenT)) (xCons (xName 2) (xNil))) (xC (.int 1))) (xRet (xTup (xCons (xTup (xCons (xC (.str "seal")) (xCons (xName 3) (xNil)))) (xCons (xCall g_after_sign (xCons (xName 0) (xCons (xName 1) (xCons (xC (.str "]")) (xNil))))) (xNil))))) (xNext)) (xRet (xTup (xCons (xTup (xCons (x2 ixT (xName 2) (xC (.int 0))) (xCons (x2 ixT (xName 2) (xC (.int 1))) (xCons (xName 3) (xNil))))) (xCons (xCall g_after_sign (xCons (xName 0) (xCons (xName 1) (xCons (xC (.str ")")) (xNil))))) (xNil)))))
/-- form_at: slots 0 text, 1 at, 2 pending, 3 sign, 4 form, 5 head -/
def x_form_at (g_leaf_at : PF) (g_closed_at : PF) (g_middle_at : PF) : XS := xSeq (xAsg (xLst (xNil)) (gN 2)) (xWhile (xTru (xC (.bl true))) (xSeq (xAsg (xSl (xName 0) (xPart (xName 1)) (xPart (x2 addT (xName 1) (xC (.int 1))))) (gN 3)) (xSeq (xIfS (xOr (x2T eqT (xName 3) (xC (.str "("))) (x2T eqT (xName 3) (xC (.str "[")))) (xSeq (xExp (xApp 2 (xCons (xIf (x2T eqT (xName 3) (xC (.str "("))) (xTup (xCons (xC (.str "(")) (xNil))) (xTup (xCons (xC (.str "seal")) (xNil)))) (xNil)))) (xSeq (xAsg (x2 addT (xName 1) (xC (.int 1))) (gN 1)) ((fun D ρ => D.ct ρ)))) (xNext)) (xSeq (xAsg (xCall g_leaf_at (xCons (xName 0) (xCons (xName 1) (xNil)))) (gT 2 (gsCons (gN 4) (gsCons (gN 1) (gsNil))))) (xSeq (xWhile (xBorT (xAnd (xTru (xName 2)) (x2T neHT (x2 ixT (xName 2) (xNeg (xC (.int 1)))) (xTup (xCons (xC (.str "(")) (xNil)))))) (xAsg (xCall g_closed_at (xCons (xName 0) (xCons (xName 1) (xCons (xPop 2) (xCons (xName 4) (xNil)))))) (gT 2 (gsCons (gN 4) (gsCons (gN 1) (gsNil)))))) (xSeq (xIfS (xBorT (xNot (xTru (xName 2)))) (xRet (xTup (xCons (xName 4) (xCons (xName 1) (xNil))))) (xNext)) (xSeq (xExp (xPop 2)) (xSeq (xAsg (xCall g_middle_at (xCons (xName 0) (xCons (xName 1) (xNil)))) (gT 2 (gsCons (gN 5) (gsCons (gN 1) (gsNil))))) (xExp (xApp 2 (xCons (xTup (xCons (xName 5) (xCons (xName 4) (xNil)))) (xNil))))))))))))
/-- ask_end: slots 0 text, 1 at -/
def x_ask_end (ga : Str → Addr) : XS := xIfS (x2T neT (xName 1) (xB ((un1 lenT)) (xCons (xName 0) (xNil)))) (xRaise (ga "BadText") "at" (xCons (xName 1) (xNil))) (xNext)
/-- ask_limits: slots 0 forms, 1 form -/
def x_ask_limits (g_form_depth : PF) (g_form_size : PF) (ga : Str → Addr) : XS := xSeq (xFor (xSeqI (xName 0)) (gN 1) (xIfS (x2T (intT fun i j => decide (j < i)) (xCall g_form_depth (xCons (xName 1) (xNil))) (xC (.int 24))) (xRaise (ga "TooDeep") "limit" (xCons (xC (.int 24)) (xNil))) (xNext))) (xFor (xSeqI (xName 0)) (gN 1) (xIfS (x2T (intT fun i j => decide (j < i)) (xCall g_form_size (xCons (xName 1) (xNil))) (xC (.int 100))) (xRaise (ga "TooBig") "limit" (xCons (xC (.int 100)) (xNil))) (xNext)))
/-- read_form: slots 0 text, 1 form, 2 at -/
def x_read_form (g_form_at : PF) (g_ask_end : PF) (g_ask_limits : PF) : XS := xSeq (xAsg (xCall g_form_at (xCons (xName 0) (xCons (xC (.int 0)) (xNil)))) (gT 2 (gsCons (gN 1) (gsCons (gN 2) (gsNil))))) (xSeq (xExp (xCall g_ask_end (xCons (xName 0) (xCons (xName 2) (xNil))))) (xSeq (xExp (xCall g_ask_limits (xCons (xLst (xCons (xName 1) (xNil))) (xNil)))) (xRet (xName 1))))
/-- read_row: slots 0 text, 1 left, 2 at, 3 start, 4 right, 5 end -/
def x_read_row (g_form_at : PF) (g_after_sign : PF) (g_ask_end : PF) (g_ask_limits : PF) : XS := xSeq (xAsg (xCall g_form_at (xCons (xName 0) (xCons (xC (.int 0)) (xNil)))) (gT 2 (gsCons (gN 1) (gsCons (gN 2) (gsNil))))) (xSeq (xAsg (xCall g_after_sign (xCons (xName 0) (xCons (xName 2) (xCons (xC (.str " <= ")) (xNil))))) (gN 3)) (xSeq (xAsg (xCall g_form_at (xCons (xName 0) (xCons (xName 3) (xNil)))) (gT 2 (gsCons (gN 4) (gsCons (gN 5) (gsNil))))) (xSeq (xExp (xCall g_ask_end (xCons (xName 0) (xCons (xName 5) (xNil))))) (xSeq (xExp (xCall g_ask_limits (xCons (xLst (xCons (xName 1) (xCons (xName 4) (xNil)))) (xNil)))) (xRet (xTup (xCons (xName 1) (xCons (xName 4) (xNil)))))))))
/-- _law_form_text: slots 0 form, 1 parts, 2 stack, 3 k, 4 part, 5 one, 6 two, 7 sign -/
def x__law_form_text (g__law_preorder : PF) : XS := xSeq (xAsg (xCall g__law_preorder (xCons (xName 0) (xNil))) (gN 1)) (xSeq (xAsg (xLst (xNil)) (gN 2)) (xSeq (xFor (xRng3 (xCons (x2 subT (xB ((un1 lenT)) (xCons (xName 1) (xNil))) (xC (.int 1))) (xCons (xNeg (xC (.int 1))) (xCons (xNeg (xC (.int 1))) (xNil))))) (gN 3) (xSeq (xAsg (x2 ixT (xName 1) (xName 3)) (gN 4)) (xIfS (x2T eqT (x2 ixT (xName 4) (xC (.int 0))) (xC (.str "kind"))) (xExp (xApp 2 (xCons (x2 ixT (xName 4) (xC (.int 1))) (xNil)))) (xIfS (x2T eqT (x2 ixT (xName 4) (xC (.int 0))) (xC (.str "var"))) (xExp (xApp 2 (xCons (x2 addT (xC (.str "?")) (xB ((un1 textT)) (xCons (x2 ixT (xName 4) (xC (.int 1))) (xNil)))) (xNil)))) (xIfS (x2T eqT (x2 ixT (xName 4) (xC (.int 0))) (xC (.str "o"))) (xExp (xApp 2 (xCons (xC (.str "o")) (xNil)))) (xIfS (x2T eqT (x2 ixT (xName 4) (xC (.int 0))) (xC (.str "free"))) (xExp (xApp 2 (xCons (x2 addT (xC (.str "o")) (xB ((un1 textT)) (xCons (x2 ixT (xName 4) (xC (.int 1))) (xNil)))) (xNil)))) (xIfS (x2T eqT (x2 ixT (xName 4) (xC (.int 0))) (xC (.str "seal"))) (xExp (xApp 2 (xCons (x2 addT (x2 addT (xC (.str "[")) (xPop 2)) (xC (.str "]"))) (xNil)))) (xSeq (xAsg (xPop 2) (gN 5)) (xSeq (xAsg (xPop 2) (gN 6)) (xSeq (xAsg (xC (.str " * ")) (gN 7)) (xSeq (xIfS (x2T eqT (x2 ixT (xName 4) (xC (.int 0))) (xC (.str "fn"))) (xAsg (xC (.str " -> ")) (gN 7)) (xNext)) (xExp (xApp 2 (xCons (x2 addT (x2 addT (x2 addT (x2 addT (xC (.str "(")) (xName 5)) (xName 7)) (xName 6)) (xC (.str ")"))) (xNil))))))))))))))) (xRet (xIxN 2 (xC (.int 0))))))
/-- _law_common: slots 0 text, 1 at, 2 word, 3 many, 4 k -/
def x__law_common : XS := xSeq (xAsg (xC (.int 0)) (gN 3)) (xSeq (xFor (xRng1 (xCons (xB ((un1 lenT)) (xCons (xName 2) (xNil))) (xNil))) (gN 4) (xSeq (xIfS (x2T neT (xSl (xName 0) (xPart (x2 addT (xName 1) (xName 4))) (xPart (x2 addT (x2 addT (xName 1) (xName 4)) (xC (.int 1))))) (x2 ixT (xName 2) (xName 4))) ((fun D ρ => D.bk ρ)) (xNext)) (xAsg (x2 addT (xName 3) (xC (.int 1))) (gN 3)))) (xRet (xName 3)))
/-- _law_leaf_end: slots 0 text, 1 at, 2 end, 3 sign -/
def x__law_leaf_end : XS := xSeq (xAsg (xName 1) (gN 2)) (xSeq (xIfS (x2T eqT (xSl (xName 0) (xPart (xName 1)) (xPart (x2 addT (xName 1) (xC (.int 1))))) (xC (.str "?"))) (xSeq (xAsg (x2 addT (xName 1) (xC (.int 1))) (gN 2)) (xSeq (xFor (xSeqI (xSl (xName 0) (xPart (x2 addT (xName 1) (xC (.int 1)))) (xPart (x2 addT (xName 1) (xC (.int 5)))))) (gN 3) (xSeq (xIfS (xOr (x2T (sgnT not) (xName 3) (xC (.str "0123456789"))) (x2T eqT (xSl (xName 0) (xPart (x2 addT (xName 1) (xC (.int 1)))) (xPart (xName 2))) (xC (.str "0")))) ((fun D ρ => D.bk ρ)) (xNext)) (xAsg (x2 addT (xName 2) (xC (.int 1))) (gN 2)))) (xRet (xName 2)))) (xNext)) (xSeq (xFor (xSeqI (xSl (xName 0) (xPart (xName 1)) (xPart (x2 addT (xName 1) (xC (.int 8)))))) (gN 3) (xSeq (xIfS (x2T (sgnT not) (xName 3) (xC (.str "abcdefghijklmnopqrstuvwxyz"))) ((fun D ρ => D.bk ρ)) (xNext)) (xAsg (x2 addT (xName 2) (xC (.int 1))) (gN 2)))) (xSeq (xIfS (x2T (intT fun i j => decide (j < i)) (xName 2) (xName 1)) (xFor (xSeqI (xSl (xName 0) (xPart (xName 2)) (xPart (x2 addT (xName 2) (xC (.int 2)))))) (gN 3) (xSeq (xIfS (x2T (sgnT not) (xName 3) (xC (.str "0123456789"))) ((fun D ρ => D.bk ρ)) (xNext)) (xAsg (x2 addT (xName 2) (xC (.int 1))) (gN 2)))) (xNext)) (xRet (xName 2)))))
/-- _law_scan: slots 0 text, 1 rows, 2 stack, 3 measures, 4 want, 5 at, 6 turn, 7 here, 8 end, 9 top, 10 words, 11 shared, 12 word -/
def x__law_scan (g__law_leaf_end : PF) (g__law_common : PF) : XS := xSeq (xAsg (xLst (xNil)) (gN 2)) (xSeq (xAsg (xLst (xCons (xLst (xCons (xC (.int 1)) (xCons (xC (.int 0)) (xNil)))) (xNil))) (gN 3)) (xSeq (xAsg (xC (.bl true)) (gN 4)) (xSeq (xAsg (xC (.int 0)) (gN 5)) (xSeq (xFor (xRng1 (xCons (x2 addT (x2 mulT (xC (.int 2)) (xB ((un1 lenT)) (xCons (xName 0) (xNil)))) (xC (.int 4))) (xNil))) (gN 6) (xSeq (xTake 3 7 (xNeg (xC (.int 1)))) (xIfS (xAnd (xTru (xName 4)) (x2T inT (xSl (xName 0) (xPart (xName 5)) (xPart (x2 addT (xName 5) (xC (.int 1))))) (xLst (xCons (xC (.str "(")) (xCons (xC (.str "[")) (xNil)))))) (xSeq (xExp (xApp 2 (xCons (x2 ixT (xName 0) (xName 5)) (xNil)))) (xSeq (xAsg (x2 addT (xName 5) (xC (.int 1))) (gN 5)) (xSeq (xAsg (x2 addT (xIxN 7 (xC (.int 1))) (xC (.int 1))) (gIxN 7 (xC (.int 1)))) (xIfS (xBorT (x2T (intT fun i j => decide (j ≤ i)) (xB ((un1 lenT)) (xCons (xName 2) (xNil))) (x2 ixT (xName 7) (xC (.int 0))))) (xSeq (xAsg (x2 addT (xBor (xB ((un1 lenT)) (xCons (xName 2) (xNil)))) (xC (.int 1))) (gIxN 7 (xC (.int 0)))) (xPut 3 7 xNext)) (xPut 3 7 xNext))))) (xIfS (xTru (xName 4)) (xSeq (xAsg (xCall g__law_leaf_end (xCons (xName 0) (xCons (xName 5) (xNil)))) (gN 8)) (xSeq (xIfS (xOr (x2T eqT (xName 8) (xName 5)) (x2T eqT (xSl (xName 0) (xPart (xName 5)) (xPart (xName 8))) (xC (.str "?")))) (xPut 3 7 (xRet (xTup (xCons (xName 8) (xCons (xName 3) (xNil)))))) (xNext)) (xSeq (xAsg (x2 addT (xIxN 7 (xC (.int 1))) (xC (.int 1))) (gIxN 7 (xC (.int 1)))) (xPut 3 7 (xSeq (xAsg (xName 8) (gN 5)) (xAsg (xC (.bl false)) (gN 4))))))) (xPut 3 7 (xIfS (xBorT (xAnd (x2T eqT (xB ((un1 lenT)) (xCons (xName 2) (xNil))) (xC (.int 0))) (x2T eqT (xName 1) (xC (.int 0))))) (xRet (xTup (xCons (x2 ixT (xLst (xCons (xName 5) (xCons (xNeg (xC (.int 1))) (xNil)))) (xB ((un1 toIntT)) (xCons (x2 (gB eqT) (xName 5) (xB ((un1 lenT)) (xCons (xName 0) (xNil)))) (xNil)))) (xCons (xName 3) (xNil))))) (xSeq (xAsg (xBor (x2 ixT (x2 addT (xLst (xCons (xC (.str "row")) (xNil))) (xName 2)) (xNeg (xC (.int 1))))) (gN 9)) (xSeq (xAsg (xDIx (xDispA ["row", "(", ",", "["] (xCons (xLst (xCons (xC (.str " <= ")) (xNil))) (xCons (xLst (xCons (xC (.str " -> ")) (xCons (xC (.str " * ")) (xNil)))) (xCons (xLst (xCons (xC (.str ")")) (xNil))) (xCons (xLst (xCons (xC (.str "]")) (xNil))) (xNil)))))) (xName 9)) (gN 10)) (xSeq (xAsg (xLc (xSeqI (xName 10)) (gN 12) (xYes) (xCall g__law_common (xCons (xName 0) (xCons (xName 5) (xCons (xName 12) (xNil))))) [12]) (gN 11)) (xSeq (xAsg (x2 ixT (xName 10) (x2 ixT (xLst (xCons (xC (.int 0)) (xCons (x2 subT (xB ((un1 lenT)) (xCons (xName 10) (xNil))) (xC (.int 1))) (xNil)))) (xB ((un1 toIntT)) (xCons (x2 (gB (intT fun i j => decide (j < i))) (x2 ixT (xName 11) (xNeg (xC (.int 1)))) (x2 ixT (xName 11) (xC (.int 0)))) (xNil))))) (gN 12)) (xSeq (xIfS (x2T (intT fun i j => decide (i < j)) (x2 ixT (xName 11) (xIndex (xName 10) (xName 12))) (xB ((un1 lenT)) (xCons (xName 12) (xNil)))) (xRet (xTup (xCons (x2 addT (xName 5) (x2 ixT (xName 11) (xIndex (xName 10) (xName 12)))) (xCons (xName 3) (xNil))))) (xNext)) (xSeq (xAsg (x2 addT (xName 5) (xB ((un1 lenT)) (xCons (xName 12) (xNil)))) (gN 5)) (xSeq (xAsg (x2 (gB (intT fun i j => decide (j < i))) (xB ((un1 lenT)) (xCons (xName 12) (xNil))) (xC (.int 1))) (gN 4)) (xIfS (x2T eqT (xName 9) (xC (.str "("))) (xAsg (xC (.str ",")) (gIxN 2 (xNeg (xC (.int 1))))) (xIfS (x2T eqT (xName 9) (xC (.str "row"))) (xSeq (xAsg (xC (.int 0)) (gN 1)) (xExp (xApp 3 (xCons (xLst (xCons (xC (.int 1)) (xCons (xC (.int 0)) (xNil)))) (xNil))))) (xExp (xPop 2))))))))))))))))) (xRet (xTup (xCons (xName 5) (xCons (xName 3) (xNil)))))))))
/-- _law_is_form: slots 0 value, 1 todo, 2 turn, 3 part, 4 sign -/
def x__law_is_form : XS := xSeq (xAsg (xLst (xCons (xName 0) (xNil))) (gN 1)) (xSeq (xFor (xRng1 (xCons (xC (.int 20000)) (xNil))) (gN 2) (xSeq (xIfS (xBorT (x2T eqT (xB ((un1 lenT)) (xCons (xName 1) (xNil))) (xC (.int 0)))) (xRet (xC (.bl true))) (xNext)) (xSeq (xAsg (xPop 1) (gN 3)) (xSeq (xIfS (xOr (xNot (xTru (xIsi [.tuple] (xName 3)))) (xOr (x2T (intT fun i j => decide (i < j)) (xB ((un1 lenT)) (xCons (xName 3) (xNil))) (xC (.int 2))) (xNot (xTru (xIsi [.str] (x2 ixT (xName 3) (xC (.int 0)))))))) (xRet (xC (.bl false))) (xNext)) (xIfS (xAnd (x2T eqT (x2 ixT (xName 3) (xC (.int 0))) (xC (.str "kind"))) (xAnd (x2T eqT (xB ((un1 lenT)) (xCons (xName 3) (xNil))) (xC (.int 2))) (xTru (xIsi [.str] (x2 ixT (xName 3) (xC (.int 1))))))) (xIfS (xNot (xTru (xB ((un1 (boolsT fun bs => bs.all id))) (xCons (xLc (xSeqI (x2 ixT (xName 3) (xC (.int 1)))) (gN 4) (xYes) (x2 (gB (sgnT id)) (xName 4) (xC (.str "abcdefghijklmnopqrstuvwxyz0123456789"))) [4]) (xNil))))) (xRet (xC (.bl false))) (xNext)) (xIfS (xAnd (x2T eqT (x2 ixT (xName 3) (xC (.int 0))) (xC (.str "var"))) (x2T eqT (xB ((un1 lenT)) (xCons (xName 3) (xNil))) (xC (.int 2)))) (xIfS (xOr (xNot (xTru (xIsi [.int] (x2 ixT (xName 3) (xC (.int 1)))))) (xTru (xIsi [.bool] (x2 ixT (xName 3) (xC (.int 1)))))) (xRet (xC (.bl false))) (xNext)) (xIfS (x2T eqT (xB ((un1 lenT)) (xCons (xName 3) (xNil))) (xDGet2 (xDisp [("fn", 3), ("pair", 3), ("seal", 2)]) (x2 ixT (xName 3) (xC (.int 0))) (xC (.int 0)))) (xAsg (x2 addT (xName 1) (xB ((un1 listT)) (xCons (xSl (xName 3) (xPart (xC (.int 1))) (xNoP)) (xNil)))) (gN 1)) (xRet (xC (.bl false)))))))))) (xRet (xC (.bl false))))
/-- _law_due: slots 0 text, 1 rows, 2 at, 3 measures, 4 row -/
def x__law_due07 (g__law_scan : PF) : XS := xSeq (xAsg (xCall g__law_scan (xCons (xName 0) (xCons (xName 1) (xNil)))) (gT 2 (gsCons (gN 2) (gsCons (gN 3) (gsNil))))) (xSeq (xIfS (x2T (intT fun i j => decide (j ≤ i)) (xName 2) (xC (.int 0))) (xRet (xLst (xCons (xC (.str "BadText")) (xCons (xName 2) (xNil))))) (xNext)) (xSeq (xIfS (xTru (xB ((un1 (boolsT fun bs => bs.any id))) (xCons (xLc (xSeqI (xName 3)) (gN 4) (xYes) (x2 (gB (intT fun i j => decide (j < i))) (x2 ixT (xName 4) (xC (.int 0))) (xC (.int 24))) [4]) (xNil)))) (xRet (xLst (xCons (xC (.str "TooDeep")) (xCons (xC (.int 24)) (xNil))))) (xNext)) (xSeq (xIfS (xTru (xB ((un1 (boolsT fun bs => bs.any id))) (xCons (xLc (xSeqI (xName 3)) (gN 4) (xYes) (x2 (gB (intT fun i j => decide (j < i))) (x2 ixT (xName 4) (xC (.int 1))) (xC (.int 100))) [4]) (xNil)))) (xRet (xLst (xCons (xC (.str "TooBig")) (xCons (xC (.int 100)) (xNil))))) (xNext)) (xRet (xLst (xCons (xC (.str "answer")) (xCons (xName 0) (xNil))))))))
/-- _law_told: slots 0 text, 1 rows, 2 sides, 3 e, 4 flags, 5 told, 6 k, 7 side -/
def x__law_told07 (g_read_form : PF) (g_read_row : PF) (g__law_is_form : PF) (g__law_form_text : PF) (cs : Addr → Prop) (tst : Addr → Option Bool) (kit : Addr → Str → Option Bool) (kitV : Addr → Option Bool) : XS := xSeq (xTry cs tst 3 (xIfS (x2T eqT (xName 1) (xC (.int 0))) (xAsg (xTup (xCons (xCall g_read_form (xCons (xName 0) (xNil))) (xNil))) (gN 2)) (xAsg (xCall g_read_row (xCons (xName 0) (xNil))) (gN 2))) (fun a d C => xSeq (xAsg (xLst (xCons (xIsX a d C (kit C "BadText") (xName 3)) (xCons (xIsX a d C (kit C "UnknownName") (xName 3)) (xCons (xIsX a d C (kit C "Twice") (xName 3)) (xCons (xIsX a d C (kit C "Circle") (xName 3)) (xNil)))))) (gN 4)) (xSeq (xAsg (x2 addT (xName 4) (xLst (xCons (xIsX a d C (kit C "BadRow") (xName 3)) (xCons (xIsX a d C (kit C "NotThere") (xName 3)) (xCons (xIsX a d C (kit C "TooDeep") (xName 3)) (xCons (xIsX a d C (kit C "TooBig") (xName 3)) (xNil))))))) (gN 4)) (xSeq (xAsg (x2 addT (xName 4) (xLst (xCons (xIsX a d C (kit C "NoMeaning") (xName 3)) (xCons (xIsX a d C (kit C "NoSolution") (xName 3)) (xCons (xIsX a d C (kit C "Rough") (xName 3)) (xNil)))))) (gN 4)) (xSeq (xAsg (x2 addT (xName 4) (xLst (xCons (xIsX a d C (kit C "InUse") (xName 3)) (xCons (xIsX a d C (kit C "TooWide") (xName 3)) (xCons (xIsX a d C (kit C "Stuck") (xName 3)) (xCons (xIsX a d C (kit C "TooLong") (xName 3)) (xNil))))))) (gN 4)) (xSeq (xAsg (xLc (xRng1 (xCons (xC (.int 15)) (xNil))) (gN 6) (xAnd (xTru (x2 ixT (xName 4) (xName 6))) (xTru (xIsX a d C (kitV C) (xName 3)))) (xName 6) [6]) (gN 5)) (xSeq (xIfS (x2T eqT (xName 5) (xLst (xCons (xC (.int 0)) (xNil)))) (xRet (xLst (xCons (xC (.str "BadText")) (xCons (xFld a d C "at" (xName 3)) (xNil))))) (xNext)) (xSeq (xIfS (x2T eqT (xName 5) (xLst (xCons (xC (.int 6)) (xNil)))) (xRet (xLst (xCons (xC (.str "TooDeep")) (xCons (xFld a d C "limit" (xName 3)) (xNil))))) (xNext)) (xSeq (xIfS (x2T eqT (xName 5) (xLst (xCons (xC (.int 7)) (xNil)))) (xRet (xLst (xCons (xC (.str "TooBig")) (xCons (xFld a d C "limit" (xName 3)) (xNil))))) (xNext)) (xRet (xLst (xCons (xC (.str "other")) (xCons (xName 5) (xNil)))))))))))))) (xSeq (xIfS (xOr (xNot (xTru (xIsi [.tuple] (xName 2)))) (xOr (x2T neT (xB ((un1 lenT)) (xCons (xName 2) (xNil))) (x2 addT (xC (.int 1)) (xName 1))) (xNot (xTru (xB ((un1 (boolsT fun bs => bs.all id))) (xCons (xLc (xSeqI (xName 2)) (gN 7) (xYes) (xCall g__law_is_form (xCons (xName 7) (xNil))) [7]) (xNil))))))) (xRet (xLst (xCons (xC (.str "other")) (xCons (xC .non) (xNil))))) (xNext)) (xRet (xLst (xCons (xC (.str "answer")) (xCons (xJoin (xC (.str " <= ")) (xLc (xSeqI (xName 2)) (gN 7) (xYes) (xCall g__law_form_text (xCons (xName 7) (xNil))) [7])) (xNil))))))
/-- _law_spoilt: slots 0 store, 1 text, 2 signs, 3 sign, 4 at, 5 out -/
def x__law_spoilt (g__law_pick : IF) (g__law_amount : IF) : XS := xSeq (xAsg (xC (.str " !\"#$&'()*+,-./0123456789:;<=>?@ABCDEFGHIJKLMNOPQRSTUVWXYZ[\\]^_`abcdefghijklmnopqrstuvwxyz{|}~")) (gN 2)) (xSeq (xAsg (xCallI 0 g__law_pick (xCons (xLst (xCons (xCallI 0 g__law_pick (xCons (xName 2) (xNil))) (xCons (xCallI 0 g__law_pick (xCons (xC (.str " ()[]<>-=*?0a")) (xNil))) (xNil)))) (xNil))) (gN 3)) (xSeq (xAsg (xCallI 0 g__law_amount (xCons (xC (.int 0)) (xCons (xB ((un1 lenT)) (xCons (xName 1) (xNil))) (xNil)))) (gN 4)) (xSeq (xAsg (xLst (xCons (xSl (xName 1) (xNoP) (xPart (xName 4))) (xCons (x2 addT (xSl (xName 1) (xNoP) (xPart (xName 4))) (xSl (xName 1) (xPart (x2 addT (xName 4) (xC (.int 1)))) (xNoP))) (xCons (x2 addT (x2 addT (xSl (xName 1) (xNoP) (xPart (xName 4))) (xName 3)) (xSl (xName 1) (xPart (xName 4)) (xNoP))) (xCons (x2 addT (x2 addT (xSl (xName 1) (xNoP) (xPart (xName 4))) (xName 3)) (xSl (xName 1) (xPart (x2 addT (xName 4) (xC (.int 1)))) (xNoP))) (xNil)))))) (gN 5)) (xSeq (xExp (xApp 5 (xCons (x2 addT (x2 addT (xSl (xName 1) (xNoP) (xPart (xName 4))) (xSl (xName 1) (xPart (xName 4)) (xPart (x2 addT (xName 4) (xC (.int 1)))))) (xSl (xName 1) (xPart (xName 4)) (xNoP))) (xNil)))) (xSeq (xExp (xApp 5 (xCons (x2 addT (x2 addT (x2 addT (xSl (xName 1) (xNoP) (xPart (xName 4))) (xSl (xName 1) (xPart (x2 addT (xName 4) (xC (.int 1)))) (xPart (x2 addT (xName 4) (xC (.int 2)))))) (xSl (xName 1) (xPart (xName 4)) (xPart (x2 addT (xName 4) (xC (.int 1)))))) (xSl (xName 1) (xPart (x2 addT (xName 4) (xC (.int 2)))) (xNoP))) (xNil)))) (xRet (xCallI 0 g__law_pick (xCons (xName 5) (xNil)))))))))
/-- _law_made: slots 0 store, 1 kinds, 2 many, 3 form, 4 leaf -/
def x__law_made (g__law_form : IF) (g__law_take : IF) (g__law_leaf : IF) (g__law_deep_form : IF) (g__law_wide_form : IF) : XS := xSeq (xAsg (xCallI 0 g__law_form (xCons (xName 1) (xCons (xName 2) (xCons (x2 addT (xC (.int 1)) (xCallI 0 g__law_take (xCons (xC (.int 9)) (xNil)))) (xNil))))) (gN 3)) (xSeq (xAsg (xCallI 0 g__law_leaf (xCons (xName 1) (xCons (xName 2) (xNil)))) (gN 4)) (xSeq (xIfS (x2T eqT (xCallI 0 g__law_take (xCons (xC (.int 6)) (xNil))) (xC (.int 5))) (xAsg (xCallI 0 g__law_deep_form (xCons (xName 4) (xCons (x2 ixT (xLst (xCons (xC (.int 23)) (xCons (xC (.int 24)) (xCons (xC (.int 25)) (xCons (xC (.int 26)) (xCons (x2 addT (xC (.int 24)) (xCallI 0 g__law_take (xCons (xC (.int 75)) (xNil)))) (xNil))))))) (xCallI 0 g__law_take (xCons (xC (.int 5)) (xNil)))) (xNil)))) (gN 3)) (xIfS (x2T eqT (xCallI 0 g__law_take (xCons (xC (.int 6)) (xNil))) (xC (.int 5))) (xAsg (xCallI 0 g__law_wide_form (xCons (xName 4) (xCons (x2 ixT (xLst (xCons (xC (.int 99)) (xCons (xC (.int 100)) (xCons (xC (.int 101)) (xCons (xC (.int 102)) (xCons (xC (.int 200)) (xNil))))))) (xCallI 0 g__law_take (xCons (xC (.int 5)) (xNil)))) (xNil)))) (gN 3)) (xNext))) (xRet (xName 3))))
/-- law: slots 0 script, 1 store, 2 tails, 3 kinds, 4 turn, 5 many, 6 row, 7 texts, 8 side, 9 text, 10 asked, 11 signs, 12 rows -/
def x_law07 (g__law_store : PF) (g__law_letters : IF) (g__law_take : IF) (g__law_pick : IF) (g__law_made : IF) (g__law_form_text : PF) (g__law_scan : PF) (g__law_same : PF) (g_show_row : PF) (g_show_form : PF) (g__law_spoilt : IF) (g__law_due : PF) (g__law_told : PF) : XS := xSeq (xAsg (xCall g__law_store (xCons (xName 0) (xNil))) (gN 1)) (xSeq (xAsg (xLst (xCons (xC (.str "")) (xCons (xC (.str "0")) (xCons (xC (.str "9")) (xCons (xC (.str "00")) (xCons (xC (.str "57")) (xNil))))))) (gN 2)) (xSeq (xAsg (xLc (xRng1 (xCons (xC (.int 3)) (xNil))) (gN 4) (xYes) (x2 addT (xCallI 1 g__law_letters (xCons (x2 addT (xC (.int 1)) (xCallI 1 g__law_take (xCons (xC (.int 8)) (xNil)))) (xNil))) (xCallI 1 g__law_pick (xCons (xName 2) (xNil)))) [4]) (gN 3)) (xSeq (xAsg (xCallI 1 g__law_pick (xCons (xLst (xCons (xC (.int 0)) (xCons (xC (.int 2)) (xCons (xC (.int 10000)) (xNil))))) (xNil))) (gN 5)) (xSeq (xAsg (xTup (xCons (xCallI 1 g__law_made (xCons (xName 3) (xCons (xName 5) (xNil)))) (xCons (xCallI 1 g__law_made (xCons (xName 3) (xCons (xName 5) (xNil)))) (xNil)))) (gN 6)) (xSeq (xAsg (xLc (xSeqI (xName 6)) (gN 8) (xYes) (xCall g__law_form_text (xCons (xName 8) (xNil))) [8]) (gN 7)) (xSeq (xExp (xApp 7 (xCons (x2 addT (x2 addT (xIxN 7 (xC (.int 0))) (xC (.str " <= "))) (xIxN 7 (xC (.int 1)))) (xNil)))) (xSeq (xIfS (xBorT (xTru (xB ((un1 (boolsT fun bs => bs.all id))) (xCons (xLc (xSeqI (xSl (xName 7) (xNoP) (xPart (xC (.int 2))))) (gN 9) (xYes) (x2 (gB (intT fun i j => decide (i < j))) (x2 ixT (x2 ixT (x2 ixT (xCall g__law_scan (xCons (xName 9) (xCons (xC (.int 0)) (xNil)))) (xC (.int 1))) (xC (.int 0))) (xC (.int 0))) (xC (.int 25))) [9]) (xNil))))) (xIfS (xBorT (xNot (xTru (xCall g__law_same (xCons (xLst (xCons (xCall g_show_form (xCons (x2 ixT (xName 6) (xC (.int 0))) (xNil))) (xCons (xCall g_show_form (xCons (x2 ixT (xName 6) (xC (.int 1))) (xNil))) (xCons (xCall g_show_row (xCons (xName 6) (xNil))) (xNil))))) (xCons (xName 7) (xNil))))))) (xRet (xC (.bl false))) (xNext)) (xNext)) (xSeq (xAsg (xB ((un1 listT)) (xCons (xName 7) (xNil))) (gN 10)) (xSeq (xFor (xSeqI (xName 7)) (gN 9) (xFor (xRng1 (xCons (xC (.int 6)) (xNil))) (gN 4) (xExp (xApp 10 (xCons (xCallI 1 g__law_spoilt (xCons (xName 9) (xNil))) (xNil)))))) (xSeq (xFor (xSeqI (xLst (xCons (xC (.str " !#$&,./0123456789:;<=>?@AZ_abz{|}~")) (xCons (xC (.str " ()[]<>-=*?0a")) (xCons (xC (.str "(((ab01? -> * ] ) [ <= ")) (xNil)))))) (gN 11) (xExp (xApp 10 (xCons (xJoin (xC (.str "")) (xLc (xRng1 (xCons (xCallI 1 g__law_take (xCons (xC (.int 41)) (xNil))) (xNil))) (gN 4) (xYes) (xCallI 1 g__law_pick (xCons (xName 11) (xNil))) [4])) (xNil))))) (xSeq (xFor (xSeqI (x2 addT (xName 10) (xName 7))) (gN 9) (xFor (xSeqI (xLst (xCons (xC (.int 0)) (xCons (xC (.int 1)) (xNil))))) (gN 12) (xIfS (xNot (xTru (xCall g__law_same (xCons (xCall g__law_told (xCons (xName 9) (xCons (xName 12) (xNil)))) (xCons (xCall g__law_due (xCons (xName 9) (xCons (xName 12) (xNil)))) (xNil)))))) (xRet (xC (.bl false))) (xNext)))) (xRet (xC (.bl true))))))))))))))
end Rd
end TL
set_option maxHeartbeats 4000000
namespace TL
open PySem PySem.Spec PyProof.Rows L2
namespace Rd
theorem strOk_iff (s : Str) : PyData.strOk s = true ↔ ∀ c ∈ s.cps.toList, c < 0x110000 := by
  unfold PyData.strOk
  rw [← Array.all_toList, List.all_eq_true]
  simp
theorem strOk_1 {s : Str} {c k : Nat} (h : PyData.strOk s = true) (e : s.cps.toList[k]? = some c) : PyData.strOk ⟨#[c]⟩ = true := by
  rw [strOk_iff] at h ⊢
  intro d hd
  have : d = c := by simpa using hd
  rw [this]
  exact h c (List.mem_of_getElem? e)
theorem str_ext {a b : Str} (h : a.cps.toList = b.cps.toList) : a = b := by
  cases a with
  | mk x => cases b with
    | mk y =>
      have : x = y := Array.toList_inj.mp h
      rw [this]
def sbT (L : List Nat) (a b : Nat) : Str := ⟨((L.drop a).take (b - a)).toArray⟩
theorem cutS_mid (s : Str) (a b : Nat) : cutS s (some (a : Int)) (some (b : Int)) = sbT s.cps.toList a b := by
  apply str_ext
  unfold cutS sbT
  rw [HT.sIx_nat, HT.sIx_nat]
  have hl : s.length = s.cps.toList.length := by simp [Str.length]
  show List.take _ _ = (s.cps.toList.drop a).take (b - a)
  by_cases h1 : a ≤ s.length
  · rw [Nat.min_eq_left h1]
    by_cases h2 : b ≤ s.length
    · rw [Nat.min_eq_left h2]
    · rw [Nat.min_eq_right (show s.length ≤ b by omega), List.take_of_length_le (by rw [List.length_drop]; omega), List.take_of_length_le (by rw [List.length_drop]; omega)]
  · rw [Nat.min_eq_right (show s.length ≤ a by omega), List.drop_eq_nil_of_le (show s.cps.toList.length ≤ s.length by omega), List.drop_eq_nil_of_le (show s.cps.toList.length ≤ a by omega)]
    simp
theorem sbT_ok {s : Str} (h : PyData.strOk s = true) (a b : Nat) : PyData.strOk (sbT s.cps.toList a b) = true := by
  rw [strOk_iff] at h ⊢
  intro c hc
  have hc2 : c ∈ (s.cps.toList.drop a).take (b - a) := hc
  exact h c (List.mem_of_mem_drop (List.mem_of_mem_take hc2))
theorem sbT1 {L : List Nat} {a c : Nat} : sbT L a (a + 1) = ⟨#[c]⟩ ↔ L[a]? = some c := by
  unfold sbT
  rw [Nat.add_sub_cancel_left]
  constructor
  · intro h
    have h2 : (L.drop a).take 1 = [c] := congrArg (fun s : Str => s.cps.toList) h
    have h3 : ((L.drop a).take 1)[0]? = some c := by rw [h2]; rfl
    rw [List.getElem?_take] at h3
    simpa using h3
  · intro h
    obtain ⟨h1, h2⟩ := List.getElem?_eq_some_iff.mp h
    apply str_ext
    show (L.drop a).take 1 = [c]
    rw [List.drop_eq_getElem_cons h1, h2]
    rfl
def okT (s : Str) : Prop := PyData.strOk s = true ∧ s.length ≤ 1000000
def g_letters_from07 : GT := fun ts K _ => ∃ (s : Str) (a : Nat), ts = [.str s, .int (a : Nat)] ∧ s.length ≤ sizeLine ∧ a ≤ s.length ∧ K (.sh (.int (a + cntR isL 8 (s.cps.toList.drop a) : Nat)))
theorem pl_letters_from07 (ts : List T) (K0 : O → Prop) (Z0 : ZX) (h : g_letters_from07 ts K0 Z0) : x_letters_from (endP K0 Z0) (TL.slots 3 ts) := by
  obtain ⟨s, a, rfl, hl, ha, hk⟩ := h
  have hl2 : s.length = s.cps.toList.length := by simp [Str.length]
  unfold x_letters_from
  simp -implicitDefEqProofs
  refine whI (fun m ρ => ∃ k : Nat, ρ = [some (.sh (.str s)), some (.sh (.int (a : Nat))), some (.sh (.int (a + k : Nat)))] ∧ a + k ≤ s.length ∧ m = s.length - k ∧ k + cntR isL (8 - k) ((s.cps.toList.drop a).drop k) = cntR isL 8 (s.cps.toList.drop a)) ⟨_, 0, by simp, by omega, rfl, by simp⟩ ?_
  rintro m ρ ⟨k, rfl, hkl, rfl, hc⟩
  have done : (k < 8 → ∀ c, (s.cps.toList.drop a)[k]? = some c → isL c = false) → cntR isL 8 (s.cps.toList.drop a) = k := fun q => by
    rw [← hc, cntR_end q, Nat.add_zero]
  simp -implicitDefEqProofs
  refine ⟨hl, ?_⟩
  by_cases a1 : a + k < s.length
  · have a1' : (a : Int) + (k : Int) < (s.length : Int) := by omega
    obtain ⟨c, hcc⟩ : ∃ c, s.cps.toList[a + k]? = some c := ⟨s.cps.toList[a + k]'(by omega), List.getElem?_eq_getElem (by omega)⟩
    have hcc2 : (s.cps.toList.drop a)[k]? = some c := by rw [List.getElem?_drop]; exact hcc
    have hat : atI s.cps.toList ((a : Int) + (k : Int)) = some c := by
      rw [show (a : Int) + (k : Int) = ((a + k : Nat) : Int) by omega, atI_nat]
      exact hcc
    by_cases a2 : k < 8
    · have a2' : (a : Int) + (k : Int) - (a : Int) < 8 := by omega
      simp -implicitDefEqProofs [a1, a1', a2, a2', hat]
      refine ⟨hl, ?_⟩
      by_cases a3 : 97 ≤ c
      · by_cases a4 : c ≤ 122
        · simp -implicitDefEqProofs [a3, a4]
          refine ⟨s.length - (k + 1), by omega, k + 1, by simp; omega, by omega, rfl, ?_⟩
          have st := cntR_step a2 hcc2 (f := isL) (by simp [isL, a3, a4])
          rw [List.drop_drop (l := s.cps.toList) (i := k + 1)] at st
          omega
        · simp -implicitDefEqProofs [a3, a4]
          rw [done fun _ d hd => by rw [hcc2] at hd; cases hd; simp [isL, a4]] at hk
          exact hk
      · simp -implicitDefEqProofs [a3]
        rw [done fun _ d hd => by rw [hcc2] at hd; cases hd; simp [isL, a3]] at hk
        exact hk
    · have a2' : ¬ (a : Int) + (k : Int) - (a : Int) < 8 := by omega
      simp -implicitDefEqProofs [a1, a1', a2, a2']
      rw [done fun q => absurd q a2] at hk
      exact hk
  · have a1' : ¬ (a : Int) + (k : Int) < (s.length : Int) := by omega
    simp -implicitDefEqProofs [a1, a1']
    rw [done fun _ d hd => by rw [List.getElem?_eq_none (by rw [List.length_drop]; omega)] at hd; cases hd] at hk
    exact hk
theorem cmn_none {L w : List Nat} {c a : Nat} (h : L[a]? ≠ some c) : cmn L (c :: w) a = 0 := by unfold cmn; rw [if_neg h]
theorem cmn_some {L w : List Nat} {c a : Nat} (h : L[a]? = some c) : cmn L (c :: w) a = cmn L w (a + 1) + 1 := by rw [cmn, if_pos h]
def g_after_sign (ga : Str → Addr) : GT := fun ts K Z => ∃ (s w : Str) (a : Nat), ts = [.str s, .int (a : Nat), .str w] ∧ okT s ∧ PyData.strOk w = true ∧ w.length ≤ 10 ∧ a ≤ s.length ∧
  (cmn s.cps.toList w.cps.toList a = w.length → K (.sh (.int (a + w.length : Nat)))) ∧ (cmn s.cps.toList w.cps.toList a ≠ w.length → Z (ga "BadText") ["at"] [.int (a + cmn s.cps.toList w.cps.toList a : Nat)])
theorem pl_after_sign (ga : Str → Addr) (ts : List T) (K0 : O → Prop) (Z0 : ZX) (h : g_after_sign ga ts K0 Z0) : x_after_sign ga (endP K0 Z0) (TL.slots 5 ts) := by
  obtain ⟨s, w, a, rfl, ⟨hso, hsl⟩, hwo, hwl, ha, hk, hzz⟩ := h
  have hl2 := cps_len s
  have hw2 := cps_len w
  have hz : sizeLine = 16777216 := rfl
  unfold x_after_sign
  simp -implicitDefEqProofs
  refine foI ?_
  simp -implicitDefEqProofs
  refine forI (fun i ρ => ∃ x4 : Option O, ρ = [some (.sh (.str s)), some (.sh (.int (a : Nat))), some (.sh (.str w)), some (.sh (.int (a + i : Nat))), x4] ∧ a + i ≤ s.length ∧ cmn s.cps.toList w.cps.toList a = i + cmn s.cps.toList (w.cps.toList.drop i) (a + i)) ⟨none, by simp, by omega, by simp⟩ ?_ ?_
  · rintro i u ρ hu ⟨x4, rfl, hai, hc⟩
    rw [List.getElem?_map] at hu
    cases e : w.cps.toList[i]? with
    | none => rw [e] at hu; cases hu
    | some d =>
      rw [e] at hu
      cases hu
      obtain ⟨q1, q2⟩ := List.getElem?_eq_some_iff.mp e
      have hd : w.cps.toList.drop i = d :: w.cps.toList.drop (i + 1) := by rw [List.drop_eq_getElem_cons q1, q2]
      rw [hd] at hc
      have hdo := strOk_1 hwo e
      have bad : s.cps.toList[a + i]? ≠ some d → Z0 (ga "BadText") ["at"] [.int (a + i : Nat)] := fun q => by
        rw [cmn_none q, Nat.add_zero] at hc
        have := hzz (by omega)
        rw [hc] at this
        exact this
      by_cases a1 : a + i = s.length
      · have a1' : (a : Int) + (i : Int) = (s.length : Int) := by omega
        have b1 := bad (by rw [List.getElem?_eq_none (by omega)]; simp)
        simp -implicitDefEqProofs [a1', a1]
        refine ⟨by omega, ?_⟩
        simpa [a1'] using b1
      · have a1' : ¬ (a : Int) + (i : Int) = (s.length : Int) := by omega
        obtain ⟨c, hcc⟩ : ∃ c, s.cps.toList[a + i]? = some c := ⟨s.cps.toList[a + i]'(by omega), List.getElem?_eq_getElem (by omega)⟩
        have hat : atI s.cps.toList ((a : Int) + (i : Int)) = some c := by
          rw [show (a : Int) + (i : Int) = ((a + i : Nat) : Int) by omega, atI_nat]
          exact hcc
        have hco := strOk_1 hso hcc
        by_cases a2 : c = d
        · subst a2
          simp -implicitDefEqProofs [a1', a1, hat, hco, hdo]
          rw [cmn_some hcc] at hc
          refine ⟨by omega, by omega, by omega, ?_⟩
          rw [hc, show a + (i + 1) = a + i + 1 from rfl]
          omega
        · have a3 : ¬ ((⟨#[c]⟩ : Str) = ⟨#[d]⟩) := fun z => a2 (by cases z; rfl)
          have b1 := bad (by rw [hcc]; simpa using a2)
          simp -implicitDefEqProofs [a1', a1, hat, hco, hdo, a2, a3]
          exact ⟨by omega, by simpa using b1⟩
  · rintro ρ ⟨x4, rfl, hai, hc⟩
    rw [List.length_map] at hai hc ⊢
    rw [List.drop_length] at hc
    simp -implicitDefEqProofs
    have := hk (by rw [hc]; simp [cmn, hw2])
    rw [hw2] at this
    simpa using this
def g_after_name (ga : Str → Addr) : GT := fun ts K Z => ∃ (s : Str) (a : Nat), ts = [.str s, .int (a : Nat)] ∧ okT s ∧ a ≤ s.length ∧
  (cntR isL 8 (s.cps.toList.drop a) ≠ 0 → K (.sh (.int (a + cntR isL 8 (s.cps.toList.drop a) + cntR isG 2 (s.cps.toList.drop (a + cntR isL 8 (s.cps.toList.drop a))) : Nat)))) ∧
  (cntR isL 8 (s.cps.toList.drop a) = 0 → Z (ga "BadText") ["at"] [.int (a : Nat)])
theorem pl_after_name (ga : Str → Addr) (ts : List T) (K0 : O → Prop) (Z0 : ZX) (h : g_after_name ga ts K0 Z0) : x_after_name g_letters_from07.pf g_digits_from.pf ga (endP K0 Z0) (TL.slots 3 ts) := by
  obtain ⟨s, a, rfl, ⟨hso, hsl⟩, ha, hk, hzz⟩ := h
  have hz : sizeLine = 16777216 := rfl
  have hl2 := cps_len s
  have hin := cntR_drop_le isL 8 s.cps.toList a (by omega)
  unfold x_after_name
  simp -implicitDefEqProofs
  refine ⟨s, a, rfl, by omega, ha, ?_⟩
  simp -implicitDefEqProofs
  by_cases q : cntR isL 8 (s.cps.toList.drop a) = 0
  · simp -implicitDefEqProofs [q]
    exact hzz q
  · have q2 : ¬ ((a : Int) + (cntR isL 8 (s.cps.toList.drop a) : Int) = (a : Int)) := by omega
    simp -implicitDefEqProofs [q, q2]
    refine ⟨s, a + cntR isL 8 (s.cps.toList.drop a), 2, by simp, by omega, by omega, ?_⟩
    exact hk q
def g_after_number (ga : Str → Addr) : GT := fun ts K Z => ∃ (s : Str) (a : Nat), ts = [.str s, .int (a : Nat)] ∧ okT s ∧ a ≤ s.length ∧
  (cntR isG 4 (s.cps.toList.drop a) ≠ 0 → K (.sh (.int (numEnd s.cps.toList a : Nat)))) ∧
  (cntR isG 4 (s.cps.toList.drop a) = 0 → Z (ga "BadText") ["at"] [.int (a : Nat)])
theorem pl_after_number (ga : Str → Addr) (ts : List T) (K0 : O → Prop) (Z0 : ZX) (h : g_after_number ga ts K0 Z0) : x_after_number g_digits_from.pf ga (endP K0 Z0) (TL.slots 3 ts) := by
  obtain ⟨s, a, rfl, ⟨hso, hsl⟩, ha, hk, hzz⟩ := h
  have hz : sizeLine = 16777216 := rfl
  have hl2 := cps_len s
  unfold x_after_number
  simp -implicitDefEqProofs
  refine ⟨s, a, 4, rfl, by omega, ha, ?_⟩
  simp -implicitDefEqProofs
  by_cases q : cntR isG 4 (s.cps.toList.drop a) = 0
  · simp -implicitDefEqProofs [q]
    exact hzz q
  · have q2 : ¬ ((a : Int) + (cntR isG 4 (s.cps.toList.drop a) : Int) = (a : Int)) := by omega
    have hlt : a < s.cps.toList.length := by
      by_cases z : a < s.cps.toList.length
      · exact z
      · rw [List.drop_eq_nil_of_le (by omega)] at q
        exact absurd rfl q
    obtain ⟨c, hc⟩ : ∃ c, s.cps.toList[a]? = some c := ⟨s.cps.toList[a], List.getElem?_eq_getElem hlt⟩
    have hco := strOk_1 hso hc
    have fin := hk q
    unfold numEnd at fin
    by_cases q3 : c = 48
    · subst q3
      have e0 : Str.ofString "0" = ⟨#[48]⟩ := by decide +kernel
      rw [if_pos hc] at fin
      simp -implicitDefEqProofs [q, q2, hc, e0, hco]
      exact ⟨by omega, fin⟩
    · have e0 : ¬ ((⟨#[c]⟩ : Str) = Str.ofString "0") := fun z => by
        have e1 : Str.ofString "0" = ⟨#[48]⟩ := by decide +kernel
        rw [e1] at z
        exact q3 (by cases z; rfl)
      rw [if_neg (by rw [hc]; simpa using q3)] at fin
      simp -implicitDefEqProofs [q, q2, hc, e0, hco]
      exact ⟨by omega, fin⟩
end Rd
end TL
set_option maxHeartbeats 4000000
namespace TL
open PySem PySem.Spec PyProof.Rows L2
namespace Rd
theorem cntR_take {f : Nat → Bool} : ∀ (n : Nat) (l : List Nat), ∀ c ∈ l.take (cntR f n l), f c = true
  | 0, l, c, h => by simp [cntR] at h
  | n + 1, [], c, h => by simp at h
  | n + 1, d :: l, c, h => by
    unfold cntR at h
    split at h
    · rename_i e
      rw [List.take_succ_cons] at h
      rcases List.mem_cons.mp h with rfl | h
      · exact e
      · exact cntR_take n l c h
    · simp at h
theorem cntR_n (f : Nat → Bool) : ∀ (n : Nat) (l : List Nat), cntR f n l ≤ n
  | 0, l => by simp [cntR]
  | n + 1, [] => by simp [cntR]
  | n + 1, d :: l => by
    unfold cntR
    have := cntR_n f n l
    split <;> omega
theorem cntR_one {f : Nat → Bool} {n c a : Nat} {L : List Nat} (h : L[a]? = some c) (hc : f c = true) : cntR f (n + 1) (L.drop a) ≠ 0 := by
  obtain ⟨h1, h2⟩ := List.getElem?_eq_some_iff.mp h
  rw [List.drop_eq_getElem_cons h1, h2]
  simp [cntR, hc]
/-- the signs of the number at a place -/
def digL (L : List Nat) (a : Nat) : List Nat := (L.drop a).take (numEnd L a - a)
theorem digL_ok {L : List Nat} {a : Nat} (h : cntR isG 4 (L.drop a) ≠ 0) : (∀ c ∈ digL L a, 48 ≤ c ∧ c ≤ 57) ∧ digL L a ≠ [] ∧ (digL L a).length ≤ 4 := by
  have hg : ∀ c, isG c = true → 48 ≤ c ∧ c ≤ 57 := fun c hc => by unfold isG at hc; simpa using hc
  have h4 := cntR_n isG 4 (L.drop a)
  have hl := cntR_le isG 4 (L.drop a)
  unfold digL numEnd
  split
  · rename_i e
    obtain ⟨h1, h2⟩ := List.getElem?_eq_some_iff.mp e
    rw [Nat.add_sub_cancel_left, List.drop_eq_getElem_cons h1, h2]
    simp
  · rw [Nat.add_sub_cancel_left]
    refine ⟨fun c hc => hg c (cntR_take 4 _ c hc), fun z => ?_, by rw [List.length_take]; omega⟩
    have := congrArg List.length z
    rw [List.length_take] at this
    simp at this hl
    omega
def numV (l : List Nat) : Nat := l.foldl (fun acc c => acc * 10 + (c - 48)) 0
theorem num_int {l : List Nat} (h : ∀ c ∈ l, 48 ≤ c ∧ c ≤ 57) (h1 : l ≠ []) (h2 : l.length ≤ 4) : PySem.intText? ⟨l.toArray⟩ = some ((numV l : Nat) : Int) :=
  PySem.intText_digits (x := ⟨l.toArray⟩) h h1 (Nat.le_trans (Nat.le_of_eq (cps_len _)) (Nat.le_trans h2 (by decide)))
theorem leafBad_f {L : List Nat} {a : Nat} (q : ¬ L[a]? = some 63) (h : leafEnd L a ≠ a) : leafBad L a = false := by unfold leafBad; simp [q, h]
theorem isPr_f1 {L : List Nat} {a : Nat} (q : ¬ L[a]? = some 32) : isPr L a = false := by unfold isPr; simp [q]
theorem isPr_f2 {L : List Nat} {a : Nat} (q : ¬ L[a + 1]? = some 42) : isPr L a = false := by unfold isPr; simp [q]
theorem isPr_t {L : List Nat} {a : Nat} (q : L[a]? = some 32) (z : L[a + 1]? = some 42) : isPr L a = true := by unfold isPr; simp [q, z]
@[simp] theorem e63 : Str.ofString "?" = ⟨#[63]⟩ := by decide +kernel
def g_leaf_at (ga : Str → Addr) : GT := fun ts K Z => ∃ (s : Str) (a : Nat), ts = [.str s, .int (a : Nat)] ∧ okT s ∧ a ≤ s.length ∧
  (leafBad s.cps.toList a = false → K (.sh (.tup [(leafF numV s.cps.toList a).T, .int (leafEnd s.cps.toList a : Nat)]))) ∧
  (leafBad s.cps.toList a = true → Z (ga "BadText") ["at"] [.int (leafEnd s.cps.toList a : Nat)])
theorem pl_leaf_at (ga : Str → Addr) (ts : List T) (K0 : O → Prop) (Z0 : ZX) (h : g_leaf_at ga ts K0 Z0) : x_leaf_at (g_after_number ga).pf (g_after_name ga).pf (endP K0 Z0) (TL.slots 3 ts) := by
  obtain ⟨s, a, rfl, ⟨hso, hsl⟩, ha, hk, hzz⟩ := h
  have hz : sizeLine = 16777216 := rfl
  have hl2 := cps_len s
  have hcut : cutS s (some (a : Int)) (some ((a : Int) + 1)) = sbT s.cps.toList a (a + 1) := cutS_mid s a (a + 1)
  have hok := sbT_ok hso a (a + 1)
  unfold x_leaf_at
  by_cases q : s.cps.toList[a]? = some 63
  · have hq : sbT s.cps.toList a (a + 1) = ⟨#[63]⟩ := sbT1.mpr q
    have h63 : PyData.strOk ⟨#[63]⟩ = true := by decide +kernel
    obtain ⟨q1, q2⟩ := List.getElem?_eq_some_iff.mp q
    have hle : leafEnd s.cps.toList a = numEnd s.cps.toList (a + 1) := by unfold leafEnd; rw [if_pos q]
    simp -implicitDefEqProofs [hcut, hq, h63]
    refine ⟨by omega, s, a + 1, by simp, ⟨hso, hsl⟩, by omega, fun h => ?_, fun h => ?_⟩
    · obtain ⟨d1, d2, d3⟩ := digL_ok h
      have hne : numEnd s.cps.toList (a + 1) ≠ a + 1 := fun z => d2 (by unfold digL; rw [z]; simp)
      have hlb : leafBad s.cps.toList a = false := by
        have := (leafEnd_in (L := s.cps.toList) (a := a + 1) (by omega)).1
        unfold leafBad
        rw [hle]
        have h3 : a + 1 ≤ numEnd s.cps.toList (a + 1) := by unfold numEnd; split <;> omega
        simp [hne]
        omega
      have fin := hk hlb
      have hf : leafF numV s.cps.toList a = .var (numV (digL s.cps.toList (a + 1))) := by unfold leafF digL; rw [if_pos q, hle]
      rw [hf, hle] at fin
      have hc2 : cutS s (some ((a : Int) + 1)) (some (numEnd s.cps.toList (a + 1) : Int)) = ⟨(digL s.cps.toList (a + 1)).toArray⟩ := cutS_mid s (a + 1) (numEnd s.cps.toList (a + 1))
      have hlen : (⟨(digL s.cps.toList (a + 1)).toArray⟩ : Str).length ≤ 4 := by
        rw [cps_len]
        exact d3
      simp -implicitDefEqProofs [hc2]
      refine ⟨by omega, _, num_int d1 d2 d3, by omega, ?_⟩
      simpa [Fo.T] using fin
    · have hlb : leafBad s.cps.toList a = true := by
        have h48 : s.cps.toList[a + 1]? ≠ some 48 := fun z => cntR_one (n := 3) z (by decide) h
        unfold leafBad
        rw [hle]
        unfold numEnd
        rw [if_neg h48, h, q]
        simp
      have fin := hzz hlb
      have h48 : s.cps.toList[a + 1]? ≠ some 48 := fun z => cntR_one (n := 3) z (by decide) h
      rw [hle] at fin
      unfold numEnd at fin
      rw [if_neg h48, h] at fin
      exact fin
  · have hq : ¬ (sbT s.cps.toList a (a + 1) = ⟨#[63]⟩) := fun z => q (sbT1.mp z)
    have h63 : PyData.strOk ⟨#[63]⟩ = true := by decide +kernel
    simp -implicitDefEqProofs [hcut, hq, hok, h63]
    refine ⟨by omega, s, a, rfl, ⟨hso, hsl⟩, ha, fun h => ?_, fun h => ?_⟩
    · have hle : leafEnd s.cps.toList a = a + cntR isL 8 (s.cps.toList.drop a) + cntR isG 2 (s.cps.toList.drop (a + cntR isL 8 (s.cps.toList.drop a))) := by unfold leafEnd; rw [if_neg q, if_neg h]
      have hne : leafEnd s.cps.toList a ≠ a := by rw [hle]; omega
      have hlb : leafBad s.cps.toList a = false := leafBad_f q hne
      have fin := hk hlb
      have hf : leafF numV s.cps.toList a = .kind (sbT s.cps.toList a (leafEnd s.cps.toList a)) := by unfold leafF sbT; rw [if_neg q]
      rw [hf] at fin
      have hc2 := cutS_mid s a (leafEnd s.cps.toList a)
      rw [← hle]
      simp -implicitDefEqProofs [hc2]
      refine ⟨by omega, ?_⟩
      simpa [Fo.T] using fin
    · have hle : leafEnd s.cps.toList a = a := by unfold leafEnd; rw [if_neg q, if_pos h]
      have fin := hzz (by unfold leafBad; rw [hle]; simp)
      rw [hle] at fin
      exact fin
theorem e42 : Str.ofString "*" = ⟨#[42]⟩ := by decide +kernel
def g_middle_at (ga : Str → Addr) : GT := fun ts K Z => ∃ (s : Str) (a : Nat), ts = [.str s, .int (a : Nat)] ∧ okT s ∧ a ≤ s.length ∧
  (isPr s.cps.toList a = true → (cmn s.cps.toList wPr a = 3 → K (.sh (.tup [.str "pair", .int (a + 3 : Nat)]))) ∧ (cmn s.cps.toList wPr a ≠ 3 → Z (ga "BadText") ["at"] [.int (a + cmn s.cps.toList wPr a : Nat)])) ∧
  (isPr s.cps.toList a = false → (cmn s.cps.toList wFn a = 4 → K (.sh (.tup [.str "fn", .int (a + 4 : Nat)]))) ∧ (cmn s.cps.toList wFn a ≠ 4 → Z (ga "BadText") ["at"] [.int (a + cmn s.cps.toList wFn a : Nat)]))
theorem pl_middle_at (ga : Str → Addr) (ts : List T) (K0 : O → Prop) (Z0 : ZX) (h : g_middle_at ga ts K0 Z0) : x_middle_at (g_after_sign ga).pf (endP K0 Z0) (TL.slots 3 ts) := by
  obtain ⟨s, a, rfl, ⟨hso, hsl⟩, ha, hpr, hfn⟩ := h
  have hz : sizeLine = 16777216 := rfl
  have hl2 := cps_len s
  unfold x_middle_at
  simp -implicitDefEqProofs
  refine ⟨s, " ", a, rfl, ⟨hso, hsl⟩, by decide +kernel, by decide +kernel, ha, fun h => ?_, fun h => ?_⟩
  · have q : s.cps.toList[a]? = some 32 := by
      by_cases z : s.cps.toList[a]? = some 32
      · exact z
      · have e : (" " : Str).cps.toList = [32] := by decide +kernel
        rw [e, cmn_none z] at h
        exact absurd h (by decide +kernel)
    obtain ⟨q1, q2⟩ := List.getElem?_eq_some_iff.mp q
    have hcut : cutS s (some ((a : Int) + 1)) (some ((a : Int) + 1 + 1)) = sbT s.cps.toList (a + 1) (a + 1 + 1) := cutS_mid s (a + 1) (a + 1 + 1)
    have hok := sbT_ok hso (a + 1) (a + 1 + 1)
    have h42 : PyData.strOk ⟨#[42]⟩ = true := by decide +kernel
    have el : (" " : Str).length = 1 := by decide +kernel
    by_cases z : s.cps.toList[a + 1]? = some 42
    · have hq : sbT s.cps.toList (a + 1) (a + 1 + 1) = ⟨#[42]⟩ := sbT1.mpr z
      obtain ⟨p1, p2⟩ := hpr (isPr_t q z)
      have e2 : ("* " : Str).cps.toList = [42, 32] := by decide +kernel
      have e3 : ("* " : Str).length = 2 := by decide +kernel
      have e4 : cmn s.cps.toList wPr a = cmn s.cps.toList [42, 32] (a + 1) + 1 := by rw [wPr, cmn_some q]
      simp -implicitDefEqProofs [el, hcut, hq, h42, e42]
      refine ⟨by omega, s, "* ", a + 1, by simp, ⟨hso, hsl⟩, by decide +kernel, by decide +kernel, by omega, fun h2 => ?_, fun h2 => ?_⟩
      · rw [e2, e3] at h2
        have := p1 (by omega)
        rw [e3]
        have e5 : ((a : Int) + 1 + 2) = ((a + 3 : Nat) : Int) := by omega
        simp -implicitDefEqProofs
        rw [e5]
        exact this
      · rw [e2, e3] at h2
        have := p2 (by omega)
        rw [e4] at this
        rw [e2]
        simpa [Nat.add_assoc, Nat.add_comm] using this
    · have hq : ¬ (sbT s.cps.toList (a + 1) (a + 1 + 1) = ⟨#[42]⟩) := fun y => z (sbT1.mp y)
      obtain ⟨p1, p2⟩ := hfn (isPr_f2 z)
      have e2 : ("-> " : Str).cps.toList = [45, 62, 32] := by decide +kernel
      have e3 : ("-> " : Str).length = 3 := by decide +kernel
      have e4 : cmn s.cps.toList wFn a = cmn s.cps.toList [45, 62, 32] (a + 1) + 1 := by rw [wFn, cmn_some q]
      simp -implicitDefEqProofs [el, hcut, hq, hok, h42, e42]
      refine ⟨by omega, s, "-> ", a + 1, by simp, ⟨hso, hsl⟩, by decide +kernel, by decide +kernel, by omega, fun h2 => ?_, fun h2 => ?_⟩
      · rw [e2, e3] at h2
        have := p1 (by omega)
        rw [e3]
        have e5 : ((a : Int) + 1 + 3) = ((a + 4 : Nat) : Int) := by omega
        simp -implicitDefEqProofs
        rw [e5]
        exact this
      · rw [e2, e3] at h2
        have := p2 (by omega)
        rw [e4] at this
        rw [e2]
        simpa [Nat.add_assoc, Nat.add_comm] using this
  · have e : (" " : Str).cps.toList = [32] := by decide +kernel
    have q : s.cps.toList[a]? ≠ some 32 := fun z => by
      rw [e, cmn_some z] at h
      exact h (by simp [cmn]; decide +kernel)
    obtain ⟨p1, p2⟩ := hfn (isPr_f1 q)
    rw [e, cmn_none q]
    have := p2 (by rw [wFn, cmn_none q]; decide)
    rw [wFn, cmn_none q] at this
    exact this
def Pnd.T : Pnd → T
  | .opn => .tup [.str "("]
  | .mid b a => .tup [.str (if b = true then "fn" else "pair"), a.T]
  | .sel => .tup [.str "seal"]
def g_closed_at (ga : Str → Addr) : GT := fun ts K Z => ∃ (s : Str) (a : Nat) (q : Pnd) (f : Fo), ts = [.str s, .int (a : Nat), q.T, f.T] ∧ okT s ∧ a ≤ s.length ∧
  ((q = .sel ∧ (s.cps.toList[a]? = some 93 → K (.sh (.tup [(Fo.sel f).T, .int (a + 1 : Nat)]))) ∧ (s.cps.toList[a]? ≠ some 93 → Z (ga "BadText") ["at"] [.int (a : Nat)])) ∨
   ∃ b x, q = .mid b x ∧ (s.cps.toList[a]? = some 41 → K (.sh (.tup [(hdF b x f).T, .int (a + 1 : Nat)]))) ∧ (s.cps.toList[a]? ≠ some 41 → Z (ga "BadText") ["at"] [.int (a : Nat)]))
theorem pl_closed_at (ga : Str → Addr) (ts : List T) (K0 : O → Prop) (Z0 : ZX) (h : g_closed_at ga ts K0 Z0) : x_closed_at (g_after_sign ga).pf (endP K0 Z0) (TL.slots 4 ts) := by
  obtain ⟨s, a, q, f, rfl, ⟨hso, hsl⟩, ha, h⟩ := h
  have hz : sizeLine = 16777216 := rfl
  unfold x_closed_at
  rcases h with ⟨rfl, p1, p2⟩ | ⟨b, x, rfl, p1, p2⟩
  · have e : ("]" : Str).cps.toList = [93] := by decide +kernel
    have el : ("]" : Str).length = 1 := by decide +kernel
    simp -implicitDefEqProofs [Pnd.T]
    refine ⟨s, "]", a, rfl, ⟨hso, hsl⟩, by decide +kernel, by decide +kernel, ha, fun h => ?_, fun h => ?_⟩
    · have q : s.cps.toList[a]? = some 93 := by
        by_cases z : s.cps.toList[a]? = some 93
        · exact z
        · rw [e, cmn_none z] at h
          exact absurd h (by decide +kernel)
      have := p1 q
      simp -implicitDefEqProofs [el]
      simpa [Fo.T] using this
    · have q : s.cps.toList[a]? ≠ some 93 := fun z => by
        rw [e, cmn_some z] at h
        exact h (by simp [cmn]; decide +kernel)
      rw [e, cmn_none q]
      exact p2 q
  · have e : (")" : Str).cps.toList = [41] := by decide +kernel
    have el : (")" : Str).length = 1 := by decide +kernel
    cases b <;>
    · simp -implicitDefEqProofs [Pnd.T]
      refine ⟨s, ")", a, rfl, ⟨hso, hsl⟩, by decide +kernel, by decide +kernel, ha, fun h => ?_, fun h => ?_⟩
      · have q : s.cps.toList[a]? = some 41 := by
          by_cases z : s.cps.toList[a]? = some 41
          · exact z
          · rw [e, cmn_none z] at h
            exact absurd h (by decide +kernel)
        have := p1 q
        simp -implicitDefEqProofs [el]
        simpa [Fo.T, hdF] using this
      · have q : s.cps.toList[a]? ≠ some 41 := fun z => by
          rw [e, cmn_some z] at h
          exact h (by simp [cmn]; decide +kernel)
        rw [e, cmn_none q]
        exact p2 q
end Rd
end TL
set_option maxHeartbeats 4000000
namespace TL
open PySem PySem.Spec PyProof.Rows L2
namespace Rd
theorem e40 : Str.ofString "(" = ⟨#[40]⟩ := by decide +kernel
theorem e91 : Str.ofString "[" = ⟨#[91]⟩ := by decide +kernel
theorem stO {c : Nat} (h : c < 1114112) : PyData.strOk ⟨#[c]⟩ = true := by
  rw [strOk_iff]
  intro d hd
  have : d = c := by simpa using hd
  omega
def fa_in (g_leaf_at : PF) (g_closed_at : PF) (g_middle_at : PF) : XS := (xSeq (xWhile (xBorT (xAnd (xTru (xName 2)) (x2T neHT (x2 ixT (xName 2) (xNeg (xC (.int 1)))) (xTup (xCons (xC (.str "(")) (xNil)))))) (xAsg (xCall g_closed_at (xCons (xName 0) (xCons (xName 1) (xCons (xPop 2) (xCons (xName 4) (xNil)))))) (gT 2 (gsCons (gN 4) (gsCons (gN 1) (gsNil)))))) (xSeq (xIfS (xBorT (xNot (xTru (xName 2)))) (xRet (xTup (xCons (xName 4) (xCons (xName 1) (xNil))))) (xNext)) (xSeq (xExp (xPop 2)) (xSeq (xAsg (xCall g_middle_at (xCons (xName 0) (xCons (xName 1) (xNil)))) (gT 2 (gsCons (gN 5) (gsCons (gN 1) (gsNil))))) (xExp (xApp 2 (xCons (xTup (xCons (xName 5) (xCons (xName 4) (xNil)))) (xNil))))))))
def fa_rest (g_leaf_at : PF) (g_closed_at : PF) (g_middle_at : PF) : XS := (xSeq (xAsg (xCall g_leaf_at (xCons (xName 0) (xCons (xName 1) (xNil)))) (gT 2 (gsCons (gN 4) (gsCons (gN 1) (gsNil))))) (fa_in g_leaf_at g_closed_at g_middle_at))
def fa_all (g_leaf_at : PF) (g_closed_at : PF) (g_middle_at : PF) : XS := xSeq (xAsg (xLst (xNil)) (gN 2)) (xWhile (xTru (xC (.bl true))) (xSeq (xAsg (xSl (xName 0) (xPart (xName 1)) (xPart (x2 addT (xName 1) (xC (.int 1))))) (gN 3)) (xSeq (xIfS (xOr (x2T eqT (xName 3) (xC (.str "("))) (x2T eqT (xName 3) (xC (.str "[")))) (xSeq (xExp (xApp 2 (xCons (xIf (x2T eqT (xName 3) (xC (.str "("))) (xTup (xCons (xC (.str "(")) (xNil))) (xTup (xCons (xC (.str "seal")) (xNil)))) (xNil)))) (xSeq (xAsg (x2 addT (xName 1) (xC (.int 1))) (gN 1)) ((fun D ρ => D.ct ρ)))) (xNext)) (fa_rest g_leaf_at g_closed_at g_middle_at))))
def pndO (p : List Pnd) : O := .lst (p.reverse.map fun q => .sh q.T)
def g_form_at (ga : Str → Addr) : GT := fun ts K Z => ∃ (s : Str) (a : Nat), ts = [.str s, .int (a : Nat)] ∧ okT s ∧ a ≤ s.length ∧
  (∀ f e, runM numV s.cps.toList (.want [] a) = .don f e → K (.sh (.tup [f.T, .int (e : Nat)]))) ∧
  (∀ k, runM numV s.cps.toList (.want [] a) = .err k → Z (ga "BadText") ["at"] [.int (k : Nat)])
theorem pl_form_at (ga : Str → Addr) (ts : List T) (K0 : O → Prop) (Z0 : ZX) (h : g_form_at ga ts K0 Z0) : x_form_at (g_leaf_at ga).pf (g_closed_at ga).pf (g_middle_at ga).pf (endP K0 Z0) (TL.slots 6 ts) := by
  obtain ⟨s, a0, rfl, ⟨hso, hsl⟩, ha0, hk, hzz⟩ := h
  have hz : sizeLine = 16777216 := rfl
  have hl2 := cps_len s
  change fa_all _ _ _ _ _
  unfold fa_all
  simp -implicitDefEqProofs
  refine whI (fun m ρ => ∃ (p : List Pnd) (a : Nat) (x3 x4 x5 : Option O), ρ = [some (.sh (.str s)), some (.sh (.int (a : Nat))), some (pndO p), x3, x4, x5] ∧ a ≤ s.length ∧ p.length ≤ a ∧ m = s.length + 1 - a ∧ runM numV s.cps.toList (.want p a) = runM numV s.cps.toList (.want [] a0)) ⟨_, [], a0, none, none, none, by simp [pndO], ha0, by simp, rfl, rfl⟩ ?_
  rintro m ρ ⟨p, a, x3, x4, x5, rfl, ha, hpa, rfl, hrun⟩
  have hcut : cutS s (some (a : Int)) (some ((a : Int) + 1)) = sbT s.cps.toList a (a + 1) := cutS_mid s a (a + 1)
  have hok := sbT_ok hso a (a + 1)
  have o40 : PyData.strOk ⟨#[40]⟩ = true := stO (by decide)
  have o91 : PyData.strOk ⟨#[91]⟩ = true := stO (by decide)
  have key : ∀ {c : Nat}, s.cps.toList[a]? = some c → a < s.length := fun e => by
    have := (List.getElem?_eq_some_iff.mp e).1
    omega
  by_cases q1 : s.cps.toList[a]? = some 40
  · have hq : sbT s.cps.toList a (a + 1) = ⟨#[40]⟩ := sbT1.mpr q1
    have hst : stepM numV s.cps.toList (.want p a) = .go (.want (.opn :: p) (a + 1)) := by simp only [stepM]; rw [if_pos q1]
    rw [run_go hst (show a ≤ _ by omega)] at hrun
    have ha2 := key q1
    simp -implicitDefEqProofs [hcut, hq, e40, o40, o91, pndO]
    exact ⟨by omega, by omega, _, by omega, .opn :: p, a + 1, ⟨by simp, by simp [Pnd.T, e40]⟩, by omega, by simp; omega, rfl, hrun⟩
  by_cases q2 : s.cps.toList[a]? = some 91
  · have hq : sbT s.cps.toList a (a + 1) = ⟨#[91]⟩ := sbT1.mpr q2
    have hst : stepM numV s.cps.toList (.want p a) = .go (.want (.sel :: p) (a + 1)) := by simp only [stepM]; rw [if_neg q1, if_pos q2]
    rw [run_go hst (show a ≤ _ by omega)] at hrun
    have ha2 := key q2
    have hne : ¬ ((⟨#[91]⟩ : Str) = ⟨#[40]⟩) := by decide
    simp -implicitDefEqProofs [hcut, hq, e40, e91, o40, o91, pndO, hne]
    exact ⟨by omega, by omega, _, by omega, .sel :: p, a + 1, ⟨by simp, by simp [Pnd.T]⟩, by omega, by simp; omega, rfl, hrun⟩
  have h1 : ¬ (sbT s.cps.toList a (a + 1) = ⟨#[40]⟩) := fun z => q1 (sbT1.mp z)
  have h2 : ¬ (sbT s.cps.toList a (a + 1) = ⟨#[91]⟩) := fun z => q2 (sbT1.mp z)
  simp -implicitDefEqProofs [hcut, e40, e91, o40, o91, pndO, hok, h1, h2]
  refine ⟨by omega, ?_⟩
  unfold fa_rest
  simp -implicitDefEqProofs
  refine ⟨s, a, rfl, ⟨hso, hsl⟩, ha, fun hb => ?_, fun hb => ?_⟩
  · have hst : stepM numV s.cps.toList (.want p a) = .go (.have_ p (leafEnd s.cps.toList a) (leafF numV s.cps.toList a)) := by simp only [stepM]; rw [if_neg q1, if_neg q2, if_neg (by rw [hb]; decide)]
    obtain ⟨g1, g2⟩ := step_go hst (show a ≤ _ by omega)
    rw [run_go hst (show a ≤ _ by omega)] at hrun
    have g1' : a < leafEnd s.cps.toList a := g1
    have g2' : leafEnd s.cps.toList a ≤ s.length := by rw [hl2]; exact g2
    generalize leafEnd s.cps.toList a = b at hrun g1' g2'
    generalize leafF numV s.cps.toList a = f at hrun
    unfold fa_in
    simp -implicitDefEqProofs
    refine whI (fun m ρ => ∃ (p : List Pnd) (b : Nat) (f : Fo) (x5 : Option O), ρ = [some (.sh (.str s)), some (.sh (.int (b : Nat))), some (pndO p), some (.sh (.str (sbT s.cps.toList a (a + 1)))), some (.sh f.T), x5] ∧ a < b ∧ b ≤ s.length ∧ p.length ≤ b ∧ m = s.length + 1 - b ∧ runM numV s.cps.toList (.have_ p b f) = runM numV s.cps.toList (.want [] a0)) ⟨_, p, b, f, x5, by simp [pndO], g1', g2', by omega, rfl, hrun⟩ ?_
    clear hrun g1' g2' g1 g2 hst
    clear b f x5
    rintro m ρ ⟨p, b, f, x5, rfl, hab, hb2, hpb, rfl, hrun⟩
    have o40' : PyData.strOk (Str.ofString "(") = true := by rw [e40]; exact o40
    cases p with
    | nil =>
      rw [run_fin (show stepM numV s.cps.toList (.have_ [] b f) = .fin (.don f b) from rfl)] at hrun
      have fin := hk f b hrun.symm
      simp -implicitDefEqProofs [pndO]
      exact fin
    | cons q p =>
      have hpb' : p.length + 1 ≤ b := by simpa using hpb
      cases q with
      | opn =>
        simp -implicitDefEqProofs [pndO, Pnd.T]
        refine ⟨s, b, rfl, ⟨hso, hsl⟩, hb2, fun hpr => ⟨fun h3 => ?_, fun h3 => ?_⟩, fun hpr => ⟨fun h3 => ?_, fun h3 => ?_⟩⟩
        · have hst : stepM numV s.cps.toList (.have_ (.opn :: p) b f) = .go (.want (.mid false f :: p) (b + 3)) := by simp only [stepM]; rw [if_pos hpr, if_pos h3]
          obtain ⟨w1, w2⟩ := step_go hst (show b ≤ _ by omega)
          have w2' : b + 3 ≤ s.length := by rw [hl2]; exact w2
          rw [run_go hst (show b ≤ _ by omega)] at hrun
          simp -implicitDefEqProofs
          exact ⟨by omega, _, by omega, .mid false f :: p, b + 3, ⟨by simp, by simp [Pnd.T]⟩, w2', by simp; omega, rfl, hrun⟩
        · have hst : stepM numV s.cps.toList (.have_ (.opn :: p) b f) = .fin (.err (b + cmn s.cps.toList wPr b)) := by simp only [stepM]; rw [if_pos hpr, if_neg h3]
          rw [run_fin hst] at hrun
          exact hzz _ hrun.symm
        · have hst : stepM numV s.cps.toList (.have_ (.opn :: p) b f) = .go (.want (.mid true f :: p) (b + 4)) := by simp only [stepM]; rw [if_neg (by rw [hpr]; decide), if_pos h3]
          obtain ⟨w1, w2⟩ := step_go hst (show b ≤ _ by omega)
          have w2' : b + 4 ≤ s.length := by rw [hl2]; exact w2
          rw [run_go hst (show b ≤ _ by omega)] at hrun
          simp -implicitDefEqProofs
          exact ⟨by omega, _, by omega, .mid true f :: p, b + 4, ⟨by simp, by simp [Pnd.T]⟩, w2', by simp; omega, rfl, hrun⟩
        · have hst : stepM numV s.cps.toList (.have_ (.opn :: p) b f) = .fin (.err (b + cmn s.cps.toList wFn b)) := by simp only [stepM]; rw [if_neg (by rw [hpr]; decide), if_neg h3]
          rw [run_fin hst] at hrun
          exact hzz _ hrun.symm
      | mid h x =>
        have hne : ¬ ((if h = true then (Str.ofString "fn") else Str.ofString "pair") = Str.ofString "(") := by cases h <;> simp
        simp -implicitDefEqProofs [pndO, Pnd.T, hne]
        refine ⟨s, b, .mid h x, f, by simp [Pnd.T], ⟨hso, hsl⟩, hb2, .inr ⟨h, x, rfl, fun h3 => ?_, fun h3 => ?_⟩⟩
        · have hst : stepM numV s.cps.toList (.have_ (.mid h x :: p) b f) = .go (.have_ p (b + 1) (hdF h x f)) := by simp only [stepM]; rw [if_pos h3]
          obtain ⟨w1, w2⟩ := step_go hst (show b ≤ _ by omega)
          have w2' : b + 1 ≤ s.length := by rw [hl2]; exact w2
          rw [run_go hst (show b ≤ _ by omega)] at hrun
          simp -implicitDefEqProofs
          refine ⟨_, by omega, p, b + 1, _, ⟨by simp, ?_, rfl⟩, by omega, w2', by omega, rfl, hrun⟩
          unfold pndO
          rw [List.map_reverse]
          rfl
        · have hst : stepM numV s.cps.toList (.have_ (.mid h x :: p) b f) = .fin (.err b) := by simp only [stepM]; rw [if_neg h3]
          rw [run_fin hst] at hrun
          exact hzz _ hrun.symm
      | sel =>
        simp -implicitDefEqProofs [pndO, Pnd.T]
        refine ⟨s, b, .sel, f, by simp [Pnd.T], ⟨hso, hsl⟩, hb2, .inl ⟨rfl, fun h3 => ?_, fun h3 => ?_⟩⟩
        · have hst : stepM numV s.cps.toList (.have_ (.sel :: p) b f) = .go (.have_ p (b + 1) (.sel f)) := by simp only [stepM]; rw [if_pos h3]
          obtain ⟨w1, w2⟩ := step_go hst (show b ≤ _ by omega)
          have w2' : b + 1 ≤ s.length := by rw [hl2]; exact w2
          rw [run_go hst (show b ≤ _ by omega)] at hrun
          simp -implicitDefEqProofs
          refine ⟨_, by omega, p, b + 1, _, ⟨by simp, ?_, rfl⟩, by omega, w2', by omega, rfl, hrun⟩
          unfold pndO
          rw [List.map_reverse]
          rfl
        · have hst : stepM numV s.cps.toList (.have_ (.sel :: p) b f) = .fin (.err b) := by simp only [stepM]; rw [if_neg h3]
          rw [run_fin hst] at hrun
          exact hzz _ hrun.symm
  · have hst : stepM numV s.cps.toList (.want p a) = .fin (.err (leafEnd s.cps.toList a)) := by simp only [stepM]; rw [if_neg q1, if_neg q2, if_pos hb]
    rw [run_fin hst] at hrun
    exact hzz _ hrun.symm
def g_ask_end (ga : Str → Addr) : GT := fun ts K Z => ∃ (s : Str) (a : Nat), ts = [.str s, .int (a : Nat)] ∧ okT s ∧ (a = s.length → K (.sh .non)) ∧ (a ≠ s.length → Z (ga "BadText") ["at"] [.int (a : Nat)])
theorem pl_ask_end (ga : Str → Addr) (ts : List T) (K0 : O → Prop) (Z0 : ZX) (h : g_ask_end ga ts K0 Z0) : x_ask_end ga (endP K0 Z0) (TL.slots 2 ts) := by
  obtain ⟨s, a, rfl, ⟨hso, hsl⟩, hk, hzz⟩ := h
  have hz : sizeLine = 16777216 := rfl
  unfold x_ask_end
  by_cases q : a = s.length
  · have q2 : (a : Int) = (s.length : Int) := by omega
    simp -implicitDefEqProofs [q, q2]
    exact ⟨by omega, hk q⟩
  · have q2 : ¬ (a : Int) = (s.length : Int) := by omega
    simp -implicitDefEqProofs [q, q2]
    exact ⟨by omega, hzz q⟩
def g_ask_limits (ga : Str → Addr) : GT := fun ts K Z => ∃ fs : List Fo, ts = [.lst (fs.map Fo.T)] ∧ fs.length ≤ 1000 ∧ (∀ f ∈ fs, f.sz ≤ 1000000) ∧
  ((∃ f ∈ fs, 24 < f.dep) → Z (ga "TooDeep") ["limit"] [.int 24]) ∧ ((∀ f ∈ fs, f.dep ≤ 24) → (∃ f ∈ fs, 100 < f.sz) → Z (ga "TooBig") ["limit"] [.int 100]) ∧
  ((∀ f ∈ fs, f.dep ≤ 24) → (∀ f ∈ fs, f.sz ≤ 100) → K (.sh .non))
theorem pl_ask_limits (ga : Str → Addr) (ts : List T) (K0 : O → Prop) (Z0 : ZX) (h : g_ask_limits ga ts K0 Z0) : x_ask_limits g_form_depth.pf g_form_size.pf ga (endP K0 Z0) (TL.slots 2 ts) := by
  obtain ⟨fs, rfl, hl, hs, h1, h2, h3⟩ := h
  unfold x_ask_limits
  simp -implicitDefEqProofs
  refine foI ?_
  simp -implicitDefEqProofs
  refine forI (fun i ρ => ∃ x1 : Option O, ρ = [some (.sh (.lst (fs.map Fo.T))), x1] ∧ ∀ f ∈ fs.take i, f.dep ≤ 24) ⟨none, rfl, by simp⟩ ?_ ?_
  · rintro i u ρ hu ⟨x1, rfl, hd⟩
    rw [List.getElem?_map] at hu
    cases e : fs[i]? with
    | none => rw [e] at hu; cases hu
    | some f =>
      rw [e] at hu
      cases hu
      have hm := List.mem_of_getElem? e
      simp -implicitDefEqProofs
      refine ⟨f, rfl, hs f hm, ?_⟩
      by_cases q : 24 < f.dep
      · have q2 : (24 : Int) < (f.dep : Int) := by omega
        simp -implicitDefEqProofs [q, q2]
        exact h1 ⟨f, hm, q⟩
      · have q2 : ¬ (24 : Int) < (f.dep : Int) := by omega
        simp -implicitDefEqProofs [q, q2]
        rw [take_snoc e]
        intro g hg
        rcases List.mem_append.mp hg with hg | hg
        · exact hd g hg
        · rw [List.mem_singleton.mp hg]; omega
  · rintro ρ ⟨x1, rfl, hd⟩
    rw [List.length_map, List.take_length] at hd
    simp -implicitDefEqProofs
    refine foI ?_
    simp -implicitDefEqProofs
    refine forI (fun i ρ => ∃ x1 : Option O, ρ = [some (.sh (.lst (fs.map Fo.T))), x1] ∧ ∀ f ∈ fs.take i, f.sz ≤ 100) ⟨x1, rfl, by simp⟩ ?_ ?_
    · rintro i u ρ hu ⟨x1, rfl, hd2⟩
      rw [List.getElem?_map] at hu
      cases e : fs[i]? with
      | none => rw [e] at hu; cases hu
      | some f =>
        rw [e] at hu
        cases hu
        have hm := List.mem_of_getElem? e
        simp -implicitDefEqProofs
        refine ⟨f, rfl, hs f hm, ?_⟩
        by_cases q : 100 < f.sz
        · have q2 : (100 : Int) < (f.sz : Int) := by omega
          simp -implicitDefEqProofs [q, q2]
          exact h2 hd ⟨f, hm, q⟩
        · have q2 : ¬ (100 : Int) < (f.sz : Int) := by omega
          simp -implicitDefEqProofs [q, q2]
          rw [take_snoc e]
          intro g hg
          rcases List.mem_append.mp hg with hg | hg
          · exact hd2 g hg
          · rw [List.mem_singleton.mp hg]; omega
    · rintro ρ ⟨x1, rfl, hd2⟩
      rw [List.length_map, List.take_length] at hd2
      simp -implicitDefEqProofs
      exact h3 hd hd2
end Rd
end TL
set_option maxHeartbeats 4000000
namespace TL
open PySem PySem.Spec PyProof.Rows L2
namespace Rd
theorem run_inv {num : List Nat → Nat} {L : List Nat} (I : Stt → Prop) (hst : ∀ s s', I s → s.at' ≤ L.length → stepM num L s = .go s' → I s') : ∀ (n : Nat) (s : Stt), L.length - s.at' = n → I s → s.at' ≤ L.length → ∀ f e, runM num L s = .don f e → I (.have_ [] e f) ∧ e ≤ L.length := by
  intro n
  induction n using Nat.strongRecOn with
  | _ n ih =>
    intro s hn hI hs f e hr
    cases q : stepM num L s with
    | go s' =>
      obtain ⟨h1, h2⟩ := step_go q hs
      rw [run_go q hs] at hr
      exact ih (L.length - s'.at') (by omega) s' rfl (hst s s' hI hs q) h2 f e hr
    | fin r =>
      rw [run_fin q] at hr
      subst hr
      cases s with
      | want p a =>
        simp only [stepM] at q
        split at q
        · cases q
        · split at q
          · cases q
          · split at q <;> cases q
      | have_ p a g =>
        cases p with
        | nil =>
          simp only [stepM] at q
          cases q
          exact ⟨hI, hs⟩
        | cons x p =>
          cases x with
          | opn =>
            simp only [stepM] at q
            split at q
            · split at q <;> cases q
            · split at q <;> cases q
          | mid b y =>
            simp only [stepM] at q
            split at q <;> cases q
          | sel =>
            simp only [stepM] at q
            split at q <;> cases q
/-- nodes are no more than signs -/
theorem run_sz {num : List Nat → Nat} {L : List Nat} {a : Nat} (ha : a ≤ L.length) {f : Fo} {e : Nat} (h : runM num L (.want [] a) = .don f e) : f.sz + a ≤ e ∧ e ≤ L.length := by
  have := run_inv (num := num) (L := L) (fun s => s.nod + a ≤ s.at') (fun s s' hI hs q => by
    obtain ⟨h1, h2⟩ := step_go q hs
    have h3 := step_lev q
    cases s <;> cases s' <;> simp only at h3 <;> omega) _ (.want [] a) rfl (show nodP [] + a ≤ a by simp [nodP]) ha f e h
  obtain ⟨h1, h2⟩ := this
  have h3 : f.sz + nodP [] + a ≤ e := h1
  simp [nodP] at h3
  exact ⟨h3, h2⟩
/-- a property of all leaves -/
def Fo.lv (P : Fo → Prop) : Fo → Prop
  | .fn a b => a.lv P ∧ b.lv P
  | .pr a b => a.lv P ∧ b.lv P
  | .sel a => a.lv P
  | f => P f
def Pnds (P : Fo → Prop) : List Pnd → Prop
  | [] => True
  | .mid _ a :: p => a.lv P ∧ Pnds P p
  | _ :: p => Pnds P p
def Stt.lv (P : Fo → Prop) : Stt → Prop
  | .want p _ => Pnds P p
  | .have_ p _ f => Pnds P p ∧ f.lv P
theorem run_lv {num : List Nat → Nat} {L : List Nat} {P : Fo → Prop} (hP : ∀ a, a ≤ L.length → leafBad L a = false → P (leafF num L a)) {a : Nat} (ha : a ≤ L.length) {f : Fo} {e : Nat} (h : runM num L (.want [] a) = .don f e) : f.lv P := by
  refine ((run_inv (num := num) (L := L) (fun s => s.lv P) (fun s s' hI hs q => ?_) _ (.want [] a) rfl trivial ha f e h).1).2
  cases s with
  | want p a =>
    simp only [stepM] at q
    split at q
    · cases q; exact hI
    · split at q
      · cases q; exact hI
      · split at q
        · cases q
        · rename_i hb
          cases q
          refine ⟨hI, ?_⟩
          have := hP a hs (by simpa using hb)
          have e2 : ∀ g : Fo, (g.isLf = true) → P g → g.lv P := fun g hg hp => by cases g <;> first | exact hp | cases hg
          refine e2 _ ?_ this
          unfold leafF
          split <;> rfl
  | have_ p a g =>
    obtain ⟨h1, h2⟩ := hI
    cases p with
    | nil => simp [stepM] at q
    | cons x p =>
      cases x with
      | opn =>
        simp only [stepM] at q
        split at q
        · split at q
          · cases q; exact ⟨h2, h1⟩
          · cases q
        · split at q
          · cases q; exact ⟨h2, h1⟩
          · cases q
      | mid b y =>
        simp only [stepM] at q
        split at q
        · cases q
          cases b
          · exact ⟨h1.2, h1.1, h2⟩
          · exact ⟨h1.2, h1.1, h2⟩
        · cases q
      | sel =>
        simp only [stepM] at q
        split at q
        · cases q; exact ⟨h1, h2⟩
        · cases q
/-- the text read is the form's text -/
theorem run_txt {num : List Nat → Nat} {str : Nat → List Nat} {L : List Nat} (hleaf : ∀ a, a ≤ L.length → leafBad L a = false → (leafF num L a).txt str = (L.drop a).take (leafEnd L a - a)) {a : Nat} (ha : a ≤ L.length) {f : Fo} {e : Nat} (h : runM num L (.want [] a) = .don f e) : f.txt str = (L.drop a).take (e - a) ∧ a ≤ e := by
  have cat : ∀ (b c : Nat), a ≤ b → b ≤ c → (L.drop a).take (c - a) = (L.drop a).take (b - a) ++ (L.drop b).take (c - b) := fun b c h1 h2 => by
    rw [show c - a = (b - a) + (c - b) by omega, List.take_add, List.drop_drop, show a + (b - a) = b by omega]
  have one : ∀ (b c : Nat), L[b]? = some c → (L.drop b).take (b + 1 - b) = [c] := fun b c h => by
    obtain ⟨h1, h2⟩ := List.getElem?_eq_some_iff.mp h
    rw [List.drop_eq_getElem_cons h1, h2, Nat.add_sub_cancel_left]
    rfl
  have := run_inv (num := num) (L := L) (fun s => a ≤ s.at' ∧ s.txt str = (L.drop a).take (s.at' - a)) (fun s s' hI hs q => by
    obtain ⟨i1, i2⟩ := hI
    obtain ⟨g1, g2⟩ := step_go q hs
    refine ⟨by omega, ?_⟩
    cases s with
    | want p b =>
      have i1 : a ≤ b := i1
      have i2 : txtP str p = (L.drop a).take (b - a) := i2
      simp only [stepM] at q
      split at q
      · rename_i e1
        cases q
        show txtP str p ++ [40] = (L.drop a).take (b + 1 - a)
        rw [cat b (b + 1) i1 (by omega), one b 40 e1, i2]
      · split at q
        · rename_i e1
          cases q
          show txtP str p ++ [91] = (L.drop a).take (b + 1 - a)
          rw [cat b (b + 1) i1 (by omega), one b 91 e1, i2]
        · split at q
          · cases q
          · rename_i hb
            cases q
            show txtP str p ++ (leafF num L b).txt str = (L.drop a).take (leafEnd L b - a)
            have g1' : b < leafEnd L b := g1
            rw [cat b (leafEnd L b) i1 (by omega), hleaf b hs (by simpa using hb), i2]
    | have_ p b g =>
      have i1 : a ≤ b := i1
      have i2 : txtP str p ++ g.txt str = (L.drop a).take (b - a) := i2
      cases p with
      | nil => simp [stepM] at q
      | cons x p =>
        cases x with
        | opn =>
          have i3 : txtP str p ++ [40] ++ g.txt str = (L.drop a).take (b - a) := i2
          simp only [stepM] at q
          split at q
          · split at q
            · rename_i _ e1
              cases q
              have := cmn_all L wPr b e1
              show txtP str p ++ [40] ++ g.txt str ++ wPr = (L.drop a).take (b + 3 - a)
              rw [cat b (b + 3) i1 (by omega), i3, show b + 3 - b = wPr.length by simp [wPr], this]
            · cases q
          · split at q
            · rename_i _ e1
              cases q
              have := cmn_all L wFn b e1
              show txtP str p ++ [40] ++ g.txt str ++ wFn = (L.drop a).take (b + 4 - a)
              rw [cat b (b + 4) i1 (by omega), i3, show b + 4 - b = wFn.length by simp [wFn], this]
            · cases q
        | mid c y =>
          have i3 : txtP str p ++ [40] ++ y.txt str ++ (if c = true then wFn else wPr) ++ g.txt str = (L.drop a).take (b - a) := i2
          simp only [stepM] at q
          split at q
          · rename_i e1
            cases q
            show txtP str p ++ (hdF c y g).txt str = (L.drop a).take (b + 1 - a)
            rw [cat b (b + 1) i1 (by omega), one b 41 e1, ← i3]
            cases c <;> simp [hdF, Fo.txt]
          · cases q
        | sel =>
          have i3 : txtP str p ++ [91] ++ g.txt str = (L.drop a).take (b - a) := i2
          simp only [stepM] at q
          split at q
          · rename_i e1
            cases q
            show txtP str p ++ (Fo.sel g).txt str = (L.drop a).take (b + 1 - a)
            rw [cat b (b + 1) i1 (by omega), one b 93 e1, ← i3]
            simp [Fo.txt]
          · cases q) _ (.want [] a) rfl (show a ≤ a ∧ txtP str [] = (L.drop a).take (a - a) by simp [txtP]) ha f e h
  obtain ⟨⟨h1, h2⟩, h3⟩ := this
  have h4 : txtP str [] ++ f.txt str = (L.drop a).take (e - a) := h2
  exact ⟨by simpa [txtP] using h4, h1⟩
end Rd
end TL
set_option maxHeartbeats 4000000
namespace TL
open PySem PySem.Spec PyProof.Rows L2
namespace Rd
inductive Out where
  | bad (k : Nat) | deep | big | ok (fs : List Fo)
def wLe : List Nat := [32, 60, 61, 32]
def limO (fs : List Fo) : Out := if fs.any (fun f => decide (24 < f.dep)) = true then .deep else if fs.any (fun f => decide (100 < f.sz)) = true then .big else .ok fs
def readF (L : List Nat) : Out := match runM numV L (.want [] 0) with
  | .err k => .bad k
  | .don f e => if e = L.length then limO [f] else .bad e
def readR (L : List Nat) : Out := match runM numV L (.want [] 0) with
  | .err k => .bad k
  | .don f e => if cmn L wLe e = 4 then (match runM numV L (.want [] (e + 4)) with
    | .err k => .bad k
    | .don g e2 => if e2 = L.length then limO [f, g] else .bad e2) else .bad (e + cmn L wLe e)
def outZ (ga : Str → Addr) (Z : ZX) : Out → Prop
  | .bad k => Z (ga "BadText") ["at"] [.int (k : Nat)]
  | .deep => Z (ga "TooDeep") ["limit"] [.int 24]
  | .big => Z (ga "TooBig") ["limit"] [.int 100]
  | .ok _ => True
theorem lim_use {ga : Str → Addr} {Z : ZX} {Kn : Prop} {fs : List Fo} (hz : outZ ga Z (limO fs)) (hk : limO fs = .ok fs → Kn) :
    ((∃ f ∈ fs, 24 < f.dep) → Z (ga "TooDeep") ["limit"] [.int 24]) ∧ ((∀ f ∈ fs, f.dep ≤ 24) → (∃ f ∈ fs, 100 < f.sz) → Z (ga "TooBig") ["limit"] [.int 100]) ∧
  ((∀ f ∈ fs, f.dep ≤ 24) → (∀ f ∈ fs, f.sz ≤ 100) → Kn) := by
  have d1 : (∃ f ∈ fs, 24 < f.dep) → fs.any (fun f => decide (24 < f.dep)) = true := fun ⟨f, h1, h2⟩ => List.any_eq_true.mpr ⟨f, h1, by simpa using h2⟩
  have d0 : (∀ f ∈ fs, f.dep ≤ 24) → fs.any (fun f => decide (24 < f.dep)) = false := fun h => List.any_eq_false.mpr fun f hf => by have := h f hf; simp; omega
  have b1 : (∃ f ∈ fs, 100 < f.sz) → fs.any (fun f => decide (100 < f.sz)) = true := fun ⟨f, h1, h2⟩ => List.any_eq_true.mpr ⟨f, h1, by simpa using h2⟩
  have b0 : (∀ f ∈ fs, f.sz ≤ 100) → fs.any (fun f => decide (100 < f.sz)) = false := fun h => List.any_eq_false.mpr fun f hf => by have := h f hf; simp; omega
  unfold limO at hz hk
  refine ⟨fun h => ?_, fun h1 h2 => ?_, fun h1 h2 => ?_⟩
  · rw [if_pos (d1 h)] at hz
    exact hz
  · rw [if_neg (by rw [d0 h1]; decide), if_pos (b1 h2)] at hz
    exact hz
  · rw [if_neg (by rw [d0 h1]; decide), if_neg (by rw [b0 h2]; decide)] at hk
    exact hk rfl
def g_read_form (ga : Str → Addr) : GT := fun ts K Z => ∃ s : Str, ts = [.str s] ∧ okT s ∧ outZ ga Z (readF s.cps.toList) ∧ ∀ f, readF s.cps.toList = .ok [f] → K (.sh f.T)
theorem pl_read_form (ga : Str → Addr) (ts : List T) (K0 : O → Prop) (Z0 : ZX) (h : g_read_form ga ts K0 Z0) : x_read_form (g_form_at ga).pf (g_ask_end ga).pf (g_ask_limits ga).pf (endP K0 Z0) (TL.slots 3 ts) := by
  obtain ⟨s, rfl, ⟨hso, hsl⟩, hzz, hk⟩ := h
  have hl2 := cps_len s
  unfold x_read_form
  simp -implicitDefEqProofs
  refine ⟨s, 0, rfl, ⟨hso, hsl⟩, by omega, fun f e hr => ?_, fun k hr => ?_⟩
  · obtain ⟨z1, z2⟩ := run_sz (Nat.zero_le _) hr
    simp -implicitDefEqProofs
    refine ⟨s, e, rfl, ⟨hso, hsl⟩, fun he => ?_, fun he => ?_⟩
    · have hR : readF s.cps.toList = limO [f] := by unfold readF; rw [hr]; exact if_pos (by omega)
      rw [hR] at hzz hk
      simp -implicitDefEqProofs
      obtain ⟨u1, u2, u3⟩ := lim_use (fs := [f]) hzz fun q => hk f q
      refine ⟨[f], rfl, by simp, fun g hg => by rw [List.mem_singleton.mp hg]; omega, u1, u2, fun a1 a2 => ?_⟩
      simp -implicitDefEqProofs
      exact u3 a1 a2
    · have hR : readF s.cps.toList = .bad e := by unfold readF; rw [hr]; exact if_neg (by omega)
      rw [hR] at hzz
      exact hzz
  · have hR : readF s.cps.toList = .bad k := by unfold readF; rw [hr]
    rw [hR] at hzz
    exact hzz
def g_read_row (ga : Str → Addr) : GT := fun ts K Z => ∃ s : Str, ts = [.str s] ∧ okT s ∧ outZ ga Z (readR s.cps.toList) ∧ ∀ f g, readR s.cps.toList = .ok [f, g] → K (.sh (.tup [f.T, g.T]))
theorem pl_read_row (ga : Str → Addr) (ts : List T) (K0 : O → Prop) (Z0 : ZX) (h : g_read_row ga ts K0 Z0) : x_read_row (g_form_at ga).pf (g_after_sign ga).pf (g_ask_end ga).pf (g_ask_limits ga).pf (endP K0 Z0) (TL.slots 6 ts) := by
  obtain ⟨s, rfl, ⟨hso, hsl⟩, hzz, hk⟩ := h
  have hl2 := cps_len s
  have ew : (" <= " : Str).cps.toList = wLe := by decide +kernel
  have el : (" <= " : Str).length = 4 := by decide +kernel
  unfold x_read_row
  simp -implicitDefEqProofs
  refine ⟨s, 0, rfl, ⟨hso, hsl⟩, by omega, fun f e hr => ?_, fun k hr => ?_⟩
  · obtain ⟨z1, z2⟩ := run_sz (Nat.zero_le _) hr
    simp -implicitDefEqProofs
    refine ⟨s, " <= ", e, rfl, ⟨hso, hsl⟩, by decide +kernel, by decide +kernel, by omega, fun h1 => ?_, fun h1 => ?_⟩
    · rw [ew, el] at h1
      have h5 := cmn_in s.cps.toList wLe e z2
      have e4 : ((e + 4 : Nat) : Int) = (e : Int) + 4 := by omega
      simp -implicitDefEqProofs [el]
      refine ⟨s, e + 4, by simp, ⟨hso, hsl⟩, by omega, fun g e2 hr2 => ?_, fun k hr2 => ?_⟩
      · obtain ⟨y1, y2⟩ := run_sz (by omega) hr2
        simp -implicitDefEqProofs
        refine ⟨s, e2, rfl, ⟨hso, hsl⟩, fun he => ?_, fun he => ?_⟩
        · have hR : readR s.cps.toList = limO [f, g] := by
            unfold readR
            rw [hr]
            show (if cmn s.cps.toList wLe e = 4 then _ else _) = _
            rw [if_pos h1, hr2]
            exact if_pos (by omega)
          rw [hR] at hzz hk
          simp -implicitDefEqProofs
          obtain ⟨u1, u2, u3⟩ := lim_use (fs := [f, g]) hzz fun q => hk f g q
          refine ⟨[f, g], rfl, by simp, fun x hx => ?_, u1, u2, fun a1 a2 => ?_⟩
          · rcases List.mem_cons.mp hx with rfl | hx
            · omega
            · rw [List.mem_singleton.mp hx]; omega
          · simp -implicitDefEqProofs
            exact u3 a1 a2
        · have hR : readR s.cps.toList = .bad e2 := by
            unfold readR
            rw [hr]
            show (if cmn s.cps.toList wLe e = 4 then _ else _) = _
            rw [if_pos h1, hr2]
            exact if_neg (by omega)
          rw [hR] at hzz
          exact hzz
      · have hR : readR s.cps.toList = .bad k := by
          unfold readR
          rw [hr]
          show (if cmn s.cps.toList wLe e = 4 then _ else _) = _
          rw [if_pos h1, hr2]
        rw [hR] at hzz
        exact hzz
    · rw [ew, el] at h1
      have hR : readR s.cps.toList = .bad (e + cmn s.cps.toList wLe e) := by
        unfold readR
        rw [hr]
        exact if_neg h1
      rw [hR] at hzz
      rw [ew]
      exact hzz
  · have hR : readR s.cps.toList = .bad k := by unfold readR; rw [hr]
    rw [hR] at hzz
    exact hzz
end Rd
end TL
set_option maxHeartbeats 4000000
namespace TL
open PySem PySem.Spec PyProof.Rows L2
namespace Rd
def g__law_common : GT := fun ts K _ => ∃ (s w : Str) (a : Nat), ts = [.str s, .int (a : Nat), .str w] ∧ okT s ∧ PyData.strOk w = true ∧ w.length ≤ 10 ∧ a ≤ s.length ∧ K (.sh (.int (cmn s.cps.toList w.cps.toList a : Nat)))
theorem pl__law_common (ts : List T) (K0 : O → Prop) (Z0 : ZX) (h : g__law_common ts K0 Z0) : x__law_common (endP K0 Z0) (TL.slots 5 ts) := by
  obtain ⟨s, w, a, rfl, ⟨hso, hsl⟩, hwo, hwl, ha, hk⟩ := h
  have hl2 := cps_len s
  have hw2 := cps_len w
  have hz : sizeLine = 16777216 := rfl
  unfold x__law_common
  simp -implicitDefEqProofs
  refine foI ?_
  simp -implicitDefEqProofs
  refine ⟨by omega, by omega, ?_⟩
  refine forI (fun i ρ => ∃ x4 : Option O, ρ = [some (.sh (.str s)), some (.sh (.int (a : Nat))), some (.sh (.str w)), some (.sh (.int (i : Nat))), x4] ∧ a + i ≤ s.length ∧ cmn s.cps.toList w.cps.toList a = i + cmn s.cps.toList (w.cps.toList.drop i) (a + i)) ⟨none, rfl, by omega, by simp⟩ ?_ ?_
  · rintro i u ρ hu ⟨x4, rfl, hai, hc⟩
    obtain ⟨rfl, hi⟩ := range_at hu
    obtain ⟨d, e⟩ : ∃ d, w.cps.toList[i]? = some d := ⟨w.cps.toList[i]'(by omega), List.getElem?_eq_getElem (by omega)⟩
    obtain ⟨q1, q2⟩ := List.getElem?_eq_some_iff.mp e
    have hd : w.cps.toList.drop i = d :: w.cps.toList.drop (i + 1) := by rw [List.drop_eq_getElem_cons q1, q2]
    rw [hd] at hc
    have hdo := strOk_1 hwo e
    have hcut : cutS s (some ((a : Int) + (i : Int))) (some ((a : Int) + (i : Int) + 1)) = sbT s.cps.toList (a + i) (a + i + 1) := cutS_mid s (a + i) (a + i + 1)
    have hok := sbT_ok hso (a + i) (a + i + 1)
    by_cases q : s.cps.toList[a + i]? = some d
    · have hq : sbT s.cps.toList (a + i) (a + i + 1) = ⟨#[d]⟩ := sbT1.mpr q
      rw [cmn_some q] at hc
      have := (List.getElem?_eq_some_iff.mp q).1
      simp -implicitDefEqProofs [hcut, hq, e, hdo]
      refine ⟨by omega, by omega, by omega, ?_⟩
      rw [hc, show a + (i + 1) = a + i + 1 from rfl]
      omega
    · have hq : ¬ (sbT s.cps.toList (a + i) (a + i + 1) = ⟨#[d]⟩) := fun z => q (sbT1.mp z)
      rw [cmn_none q, Nat.add_zero] at hc
      simp -implicitDefEqProofs [hcut, hq, e, hdo, hok]
      refine ⟨by omega, by omega, ?_⟩
      rw [hc] at hk
      exact hk
  · rintro ρ ⟨x4, rfl, hai, hc⟩
    simp only [range_len] at hc
    rw [List.drop_of_length_le (by omega)] at hc
    simp -implicitDefEqProofs
    rw [hc] at hk
    simpa [cmn] using hk
theorem subT_cps (L : List Nat) (a b : Nat) : (sbT L a b).cps.toList = (L.drop a).take (b - a) := rfl
theorem sub48 {L : List Nat} {a i : Nat} (hi : a + i ≤ L.length) : sbT L a (a + i) = ⟨#[48]⟩ ↔ i = 1 ∧ L[a]? = some 48 := by
  constructor
  · intro h
    have h2 : (L.drop a).take (a + i - a) = [48] := congrArg (fun s : Str => s.cps.toList) h
    have h3 := congrArg List.length h2
    rw [List.length_take, List.length_drop] at h3
    simp at h3
    have e : i = 1 := by omega
    subst e
    exact ⟨rfl, sbT1.mp h⟩
  · rintro ⟨rfl, h⟩
    exact sbT1.mpr h
def le_rest : XS := (xSeq (xIfS (x2T (intT fun i j => decide (j < i)) (xName 2) (xName 1)) (xFor (xSeqI (xSl (xName 0) (xPart (xName 2)) (xPart (x2 addT (xName 2) (xC (.int 2)))))) (gN 3) (xSeq (xIfS (x2T (sgnT not) (xName 3) (xC (.str "0123456789"))) ((fun D ρ => D.bk ρ)) (xNext)) (xAsg (x2 addT (xName 2) (xC (.int 1))) (gN 2)))) (xNext)) (xRet (xName 2)))
def le_all : XS := xSeq (xAsg (xName 1) (gN 2)) (xSeq (xIfS (x2T eqT (xSl (xName 0) (xPart (xName 1)) (xPart (x2 addT (xName 1) (xC (.int 1))))) (xC (.str "?"))) (xSeq (xAsg (x2 addT (xName 1) (xC (.int 1))) (gN 2)) (xSeq (xFor (xSeqI (xSl (xName 0) (xPart (x2 addT (xName 1) (xC (.int 1)))) (xPart (x2 addT (xName 1) (xC (.int 5)))))) (gN 3) (xSeq (xIfS (xOr (x2T (sgnT not) (xName 3) (xC (.str "0123456789"))) (x2T eqT (xSl (xName 0) (xPart (x2 addT (xName 1) (xC (.int 1)))) (xPart (xName 2))) (xC (.str "0")))) ((fun D ρ => D.bk ρ)) (xNext)) (xAsg (x2 addT (xName 2) (xC (.int 1))) (gN 2)))) (xRet (xName 2)))) (xNext)) (xSeq (xFor (xSeqI (xSl (xName 0) (xPart (xName 1)) (xPart (x2 addT (xName 1) (xC (.int 8)))))) (gN 3) (xSeq (xIfS (x2T (sgnT not) (xName 3) (xC (.str "abcdefghijklmnopqrstuvwxyz"))) ((fun D ρ => D.bk ρ)) (xNext)) (xAsg (x2 addT (xName 2) (xC (.int 1))) (gN 2)))) le_rest))
def g__law_leaf_end : GT := fun ts K _ => ∃ (s : Str) (a : Nat), ts = [.str s, .int (a : Nat)] ∧ okT s ∧ a ≤ s.length ∧ K (.sh (.int (leafEnd s.cps.toList a : Nat)))
theorem pl__law_leaf_end (ts : List T) (K0 : O → Prop) (Z0 : ZX) (h : g__law_leaf_end ts K0 Z0) : x__law_leaf_end (endP K0 Z0) (TL.slots 4 ts) := by
  obtain ⟨s, a, rfl, ⟨hso, hsl⟩, ha, hk⟩ := h
  have hl2 := cps_len s
  have hz : sizeLine = 16777216 := rfl
  have hcut : cutS s (some (a : Int)) (some ((a : Int) + 1)) = sbT s.cps.toList a (a + 1) := cutS_mid s a (a + 1)
  have hok := sbT_ok hso a (a + 1)
  have o63 : PyData.strOk ⟨#[63]⟩ = true := stO (by decide)
  by_cases q : s.cps.toList[a]? = some 63
  · unfold x__law_leaf_end
    have hq : sbT s.cps.toList a (a + 1) = ⟨#[63]⟩ := sbT1.mpr q
    have hle : leafEnd s.cps.toList a = numEnd s.cps.toList (a + 1) := by unfold leafEnd; rw [if_pos q]
    rw [hle] at hk
    have h1 := (List.getElem?_eq_some_iff.mp q).1
    have hc5 : cutS s (some ((a : Int) + 1)) (some ((a : Int) + 5)) = sbT s.cps.toList (a + 1) (a + 5) := cutS_mid s (a + 1) (a + 5)
    simp -implicitDefEqProofs [hcut, hq, o63]
    refine ⟨by omega, ?_⟩
    refine foI ?_
    simp -implicitDefEqProofs [hc5]
    refine ⟨by omega, ?_⟩
    have key : ∀ i, (s.cps.toList.drop (a + 1)).drop i = s.cps.toList.drop (a + 1 + i) := fun i => by rw [List.drop_drop]
    refine forI (fun i ρ => ∃ x3 : Option O, ρ = [some (.sh (.str s)), some (.sh (.int (a : Nat))), some (.sh (.int (a + 1 + i : Nat))), x3] ∧ i ≤ 4 ∧ a + 1 + i ≤ s.length ∧ (s.cps.toList[a + 1]? = some 48 → i ≤ 1) ∧ i + cntR isG (4 - i) ((s.cps.toList.drop (a + 1)).drop i) = cntR isG 4 (s.cps.toList.drop (a + 1))) ⟨none, by simp, by omega, by omega, by omega, by simp⟩ ?_ ?_
    · rintro i u ρ hu ⟨x3, rfl, hi4, hai, h48, hc⟩
      rw [subT_cps, List.getElem?_map] at hu
      obtain ⟨c, hcc, rfl⟩ := Option.map_eq_some_iff.mp hu
      have hi : i < 4 := by
        have := (List.getElem?_eq_some_iff.mp hcc).1
        rw [List.length_take] at this
        omega
      have hcd : (s.cps.toList.drop (a + 1))[i]? = some c := by
        rw [List.getElem?_take] at hcc
        rw [if_pos (by omega)] at hcc
        exact hcc
      have hcs : s.cps.toList[a + 1 + i]? = some c := by rw [List.getElem?_drop] at hcd; exact hcd
      have hlt := (List.getElem?_eq_some_iff.mp hcs).1
      have hce : cutS s (some ((a : Int) + 1)) (some ((a : Int) + 1 + (i : Int))) = sbT s.cps.toList (a + 1) (a + 1 + i) := cutS_mid s (a + 1) (a + 1 + i)
      have hoe := sbT_ok hso (a + 1) (a + 1 + i)
      have s48 := sub48 (L := s.cps.toList) (a := a + 1) (i := i) (by omega)
      have e0 : Str.ofString "0" = ⟨#[48]⟩ := by decide +kernel
      have o48 : PyData.strOk ⟨#[48]⟩ = true := stO (by decide)
      cases hb : isG c with
      | false =>
        have hend : cntR isG (4 - i) ((s.cps.toList.drop (a + 1)).drop i) = 0 := cntR_end fun _ e he => by rw [hcd] at he; cases he; exact hb
        have h48' : s.cps.toList[a + 1]? = some 48 → i = 1 := fun z => by
          have := h48 z
          by_cases y : i = 0
          · subst y
            rw [Nat.add_zero, z] at hcs
            cases hcs
            cases hb
          · omega
        have hfin : numEnd s.cps.toList (a + 1) = a + 1 + i := by
          unfold numEnd
          split
          · rename_i z
            have := h48' z
            omega
          · omega
        rw [hfin] at hk
        simp -implicitDefEqProofs [hb]
        simpa using hk
      | true =>
        by_cases z : i = 1 ∧ s.cps.toList[a + 1]? = some 48
        · have hq2 := s48.mpr z
          have hfin : numEnd s.cps.toList (a + 1) = a + 1 + i := by
            unfold numEnd
            rw [if_pos z.2, z.1]
          rw [hfin] at hk
          simp -implicitDefEqProofs [hb, hce, hq2, e0, o48]
          exact ⟨by omega, by simpa using hk⟩
        · have hq2 : ¬ (sbT s.cps.toList (a + 1) (a + 1 + i) = ⟨#[48]⟩) := fun y => z (s48.mp y)
          have st := cntR_step hi hcd hb
          simp -implicitDefEqProofs [hb, hce, hq2, e0, o48, hoe]
          refine ⟨by omega, by omega, by omega, by omega, fun y => ?_, ?_⟩
          · have y' : s.cps.toList[a + 1]? = some 48 := by simpa using y
            have := h48 y'
            by_cases y2 : i = 1
            · exact absurd ⟨y2, y'⟩ z
            · omega
          · rw [key (i + 1), show 4 - (i + 1) = 3 - i by omega] at st
            omega
    · rintro ρ ⟨x3, rfl, hi4, hai, h48, hc⟩
      rw [subT_cps, List.length_map, List.length_take, List.length_drop] at hi4 hai h48 hc ⊢
      generalize hi : min (a + 5 - (a + 1)) (s.cps.toList.length - (a + 1)) = i at hi4 hai h48 hc ⊢
      have h0 : cntR isG (4 - i) ((s.cps.toList.drop (a + 1)).drop i) = 0 := by
        by_cases y : i = 4
        · subst y; rfl
        · rw [List.drop_of_length_le (by rw [List.length_drop]; omega)]
          cases 4 - i <;> rfl
      have hfin : numEnd s.cps.toList (a + 1) = a + 1 + i := by
        unfold numEnd
        split
        · rename_i z
          have h2 := h48 z
          have h3 := (List.getElem?_eq_some_iff.mp z).1
          omega
        · omega
      rw [hfin] at hk
      simp -implicitDefEqProofs
      simpa using hk
  · have hq : ¬ (sbT s.cps.toList a (a + 1) = ⟨#[63]⟩) := fun z => q (sbT1.mp z)
    have hc8 : cutS s (some (a : Int)) (some ((a : Int) + 8)) = sbT s.cps.toList a (a + 8) := cutS_mid s a (a + 8)
    have fin : ∀ (x3 : Option O) (ρ : R), ρ = [some (.sh (.str s)), some (.sh (.int (a : Nat))), some (.sh (.int (a + cntR isL 8 (s.cps.toList.drop a) : Nat))), x3] → le_rest (endP K0 Z0) ρ := by
      rintro x3 ρ rfl
      have hle : leafEnd s.cps.toList a = if cntR isL 8 (s.cps.toList.drop a) = 0 then a else a + cntR isL 8 (s.cps.toList.drop a) + cntR isG 2 (s.cps.toList.drop (a + cntR isL 8 (s.cps.toList.drop a))) := by unfold leafEnd; rw [if_neg q]
      rw [hle] at hk
      have hin := cntR_drop_le isL 8 s.cps.toList a (by omega)
      generalize cntR isL 8 (s.cps.toList.drop a) = n at hk hin ⊢
      unfold le_rest
      by_cases n0 : n = 0
      · subst n0
        simp -implicitDefEqProofs
        simpa using hk
      · have n1 : (a : Int) < (a : Int) + (n : Int) := by omega
        rw [if_neg n0] at hk
        have hc2 : cutS s (some ((a : Int) + (n : Int))) (some ((a : Int) + (n : Int) + 2)) = sbT s.cps.toList (a + n) (a + n + 2) := cutS_mid s (a + n) (a + n + 2)
        have npos : 0 < n := by omega
        simp -implicitDefEqProofs [n1, npos]
        refine foI ?_
        simp -implicitDefEqProofs [hc2]
        refine ⟨by omega, ?_⟩
        refine forI (fun i ρ => ∃ x3 : Option O, ρ = [some (.sh (.str s)), some (.sh (.int (a : Nat))), some (.sh (.int (a + n + i : Nat))), x3] ∧ i ≤ 2 ∧ a + n + i ≤ s.length ∧ i + cntR isG (2 - i) ((s.cps.toList.drop (a + n)).drop i) = cntR isG 2 (s.cps.toList.drop (a + n))) ⟨x3, by simp, by omega, by omega, by simp⟩ ?_ ?_
        · rintro i u ρ hu ⟨x3, rfl, hi4, hai, hc⟩
          rw [subT_cps, List.getElem?_map] at hu
          obtain ⟨c, hcc, rfl⟩ := Option.map_eq_some_iff.mp hu
          have hi : i < 2 := by
            have := (List.getElem?_eq_some_iff.mp hcc).1
            rw [List.length_take] at this
            omega
          have hcd : (s.cps.toList.drop (a + n))[i]? = some c := by
            rw [List.getElem?_take, if_pos (by omega)] at hcc
            exact hcc
          have hcs : s.cps.toList[a + n + i]? = some c := by rw [List.getElem?_drop] at hcd; exact hcd
          have hlt := (List.getElem?_eq_some_iff.mp hcs).1
          cases hb : isG c with
          | false =>
            have hend : cntR isG (2 - i) ((s.cps.toList.drop (a + n)).drop i) = 0 := cntR_end fun _ e he => by rw [hcd] at he; cases he; exact hb
            rw [← hc, hend, Nat.add_zero] at hk
            simp -implicitDefEqProofs [hb]
            simpa using hk
          | true =>
            have st := cntR_step hi hcd hb
            rw [show 2 - (i + 1) = 1 - i by omega, List.drop_drop (i := i + 1)] at st
            simp -implicitDefEqProofs [hb]
            refine ⟨by omega, by omega, by omega, by omega⟩
        · rintro ρ ⟨x3, rfl, hi4, hai, hc⟩
          rw [subT_cps, List.length_map, List.length_take, List.length_drop] at hi4 hai hc ⊢
          generalize hi : min (a + n + 2 - (a + n)) (s.cps.toList.length - (a + n)) = i at hi4 hai hc ⊢
          have h0 : cntR isG (2 - i) ((s.cps.toList.drop (a + n)).drop i) = 0 := by
            by_cases y : i = 2
            · subst y; rfl
            · rw [List.drop_of_length_le (by rw [List.length_drop]; omega)]
              cases 2 - i <;> rfl
          rw [← hc, h0, Nat.add_zero] at hk
          simp -implicitDefEqProofs
          simpa using hk
    change le_all _ _
    unfold le_all
    simp -implicitDefEqProofs [hcut, hq, hok, o63]
    refine ⟨by omega, ?_⟩
    refine foI ?_
    simp -implicitDefEqProofs [hc8]
    refine ⟨by omega, ?_⟩
    refine forI (fun i ρ => ∃ x3 : Option O, ρ = [some (.sh (.str s)), some (.sh (.int (a : Nat))), some (.sh (.int (a + i : Nat))), x3] ∧ i ≤ 8 ∧ a + i ≤ s.length ∧ i + cntR isL (8 - i) ((s.cps.toList.drop a).drop i) = cntR isL 8 (s.cps.toList.drop a)) ⟨none, by simp, by omega, by omega, by simp⟩ ?_ ?_
    · rintro i u ρ hu ⟨x3, rfl, hi4, hai, hc⟩
      rw [subT_cps, List.getElem?_map] at hu
      obtain ⟨c, hcc, rfl⟩ := Option.map_eq_some_iff.mp hu
      have hi : i < 8 := by
        have := (List.getElem?_eq_some_iff.mp hcc).1
        rw [List.length_take] at this
        omega
      have hcd : (s.cps.toList.drop a)[i]? = some c := by
        rw [List.getElem?_take, if_pos (by omega)] at hcc
        exact hcc
      have hcs : s.cps.toList[a + i]? = some c := by rw [List.getElem?_drop] at hcd; exact hcd
      have hlt := (List.getElem?_eq_some_iff.mp hcs).1
      cases hb : isL c with
      | false =>
        have hend : cntR isL (8 - i) ((s.cps.toList.drop a).drop i) = 0 := cntR_end fun _ e he => by rw [hcd] at he; cases he; exact hb
        simp -implicitDefEqProofs [hb]
        refine fin (some (.sh (.str ⟨#[c]⟩))) _ ?_
        rw [← hc, hend, Nat.add_zero]
        simp
      | true =>
        have st := cntR_step hi hcd hb
        rw [show 8 - (i + 1) = 7 - i by omega, List.drop_drop (i := i + 1)] at st
        simp -implicitDefEqProofs [hb]
        refine ⟨by omega, by omega, by omega, by omega⟩
    · rintro ρ ⟨x3, rfl, hi4, hai, hc⟩
      rw [subT_cps, List.length_map, List.length_take, List.length_drop] at hi4 hai hc ⊢
      generalize hi : min (a + 8 - a) (s.cps.toList.length - a) = i at hi4 hai hc ⊢
      have h0 : cntR isL (8 - i) ((s.cps.toList.drop a).drop i) = 0 := by
        by_cases y : i = 8
        · subst y; rfl
        · rw [List.drop_of_length_le (by rw [List.length_drop]; omega)]
          cases 8 - i <;> rfl
      dsimp only
      refine fin x3 _ ?_
      rw [← hc, h0, Nat.add_zero]
end Rd
end TL
set_option maxHeartbeats 4000000
namespace TL
open PySem PySem.Spec PyProof.Rows L2
namespace Rd
def mO (m : Nat × Nat) : O := .lst [.sh (.int (m.1 : Nat)), .sh (.int (m.2 : Nat))]
def mT (m : Nat × Nat) : T := .lst [.int (m.1 : Nat), .int (m.2 : Nat)]
def symS : Pnd → Str
  | .opn => "("
  | .mid _ _ => ","
  | .sel => "["
def stkO (p : List Pnd) : O := .lst (p.reverse.map fun q => .sh (.str (symS q)))
def Stt.isW : Stt → Bool
  | .want _ _ => true
  | _ => false
def Stt.pn : Stt → List Pnd
  | .want p _ => p
  | .have_ p _ _ => p
def SR0 (L : List Nat) (st : Stt) (ms0 : List (Nat × Nat)) (at' : Int) (ms : List (Nat × Nat)) : Prop := match runM numV L st with
  | .err k => at' = (k : Nat) ∧ ms ≠ []
  | .don f e => at' = (if e = L.length then -1 else ((e : Nat) : Int)) ∧ ms = ms0 ++ [(f.dep, f.sz)]
def SR (L : List Nat) (r : Bool) (st : Stt) (ms0 : List (Nat × Nat)) (at' : Int) (ms : List (Nat × Nat)) : Prop := if r = false then SR0 L st ms0 at' ms else match runM numV L st with
  | .err k => at' = (k : Nat) ∧ ms ≠ []
  | .don f e => if cmn L wLe e = 4 then SR0 L (.want [] (e + 4)) (ms0 ++ [(f.dep, f.sz)]) at' ms else at' = (e + cmn L wLe e : Nat) ∧ ms ≠ []
theorem SR_go {L : List Nat} {r : Bool} {s s' : Stt} {ms0 : List (Nat × Nat)} {a : Int} {ms : List (Nat × Nat)} (h : stepM numV L s = .go s') (hs : s.at' ≤ L.length) : SR L r s ms0 a ms = SR L r s' ms0 a ms := by
  unfold SR SR0
  rw [run_go h hs]
theorem SR_err {L : List Nat} {r : Bool} {s : Stt} {k : Nat} {ms0 : List (Nat × Nat)} {ms : List (Nat × Nat)} (h : stepM numV L s = .fin (.err k)) (hm : ms ≠ []) : SR L r s ms0 (k : Nat) ms := by
  unfold SR SR0
  rw [run_fin h]
  cases r
  · exact ⟨rfl, hm⟩
  · exact ⟨rfl, hm⟩
def g__law_scan : GT := fun ts K _ => ∃ (s : Str) (r : Bool), ts = [.str s, .int (if r = true then 1 else 0)] ∧ okT s ∧ ∀ at' ms, SR s.cps.toList r (.want [] 0) [] at' ms → K (.sh (.tup [.int at', .lst (ms.map mT)]))
theorem ixN_21 : ixN 2 1 = some 1 := by decide
theorem ixN_20 : ixN 2 0 = some 0 := by decide
def cmO (L : List Nat) (a : Nat) : T → O
  | .str w => .sh (.int (cmn L w.cps.toList a : Nat))
  | _ => .sh .non
theorem gl_last {α : Type} (x y : α) (l : List α) : (x :: (l ++ [y])).getLast? = some y := by
  rw [show x :: (l ++ [y]) = (x :: l) ++ [y] from rfl, List.getLast?_concat]
theorem sy1 : symS .opn = Str.ofString "(" := rfl
theorem sy2 (b : Bool) (y : Fo) : symS (.mid b y) = Str.ofString "," := rfl
theorem sy3 : symS .sel = Str.ofString "[" := rfl
theorem inr_beq (a b : Str) : (@BEq.beq Key instBEqOfDecidableEq (Sum.inr a) (Sum.inr b)) = decide (a = b) :=
  decide_eq_decide.mpr ⟨Sum.inr.inj, fun h => by rw [h]⟩
theorem isPr_cmn (L : List Nat) (a : Nat) : isPr L a = decide (cmn L wFn a < cmn L wPr a) := by
  by_cases q : L[a]? = some 32
  · by_cases z : L[a + 1]? = some 42
    · rw [isPr_t q z, wFn, wPr, cmn_some q, cmn_some q, cmn_some z, cmn_none (show L[a + 1]? ≠ some 45 by rw [z]; simp)]
      simp
    · rw [isPr_f2 z, wFn, wPr, cmn_some q, cmn_some q, cmn_none z]
      simp
  · rw [isPr_f1 q, wFn, wPr, cmn_none q, cmn_none q]
    simp
theorem take_m {α : Type} (l : List α) (x y : α) : (l ++ [x]).set l.length y = l ++ [y] := by simp
def ScI (s : Str) (K0 : O → Prop) (i : Nat) (ρ : R) : Prop := ∃ (st : Stt) (r : Bool) (ms0 : List (Nat × Nat)) (x6 x8 x9 x10 x11 x12 : Option O), ρ = [some (.sh (.str s)), some (.sh (.int (if r = true then 1 else 0))), some (stkO st.pn), some (.lst ((ms0.map mO) ++ [mO (st.lev, st.nod)])), some (.sh (.bl st.isW)), some (.sh (.int (st.at' : Nat))), x6, none, x8, x9, x10, x11, x12] ∧ st.at' ≤ s.length ∧ i ≤ st.at' ∧ st.pn.length ≤ st.at' ∧ ms0.length ≤ 1 ∧ (ms0.length = 1 → r = false) ∧ ∀ at' ms, SR s.cps.toList r st ms0 at' ms → K0 (.sh (.tup [.int at', .lst (ms.map mT)]))
theorem pl__law_scan (ts : List T) (K0 : O → Prop) (Z0 : ZX) (h : g__law_scan ts K0 Z0) : x__law_scan g__law_leaf_end.pf g__law_common.pf (endP K0 Z0) (TL.slots 13 ts) := by
  obtain ⟨s, r, rfl, ⟨hso, hsl⟩, hk⟩ := h
  have hl2 := cps_len s
  have hz : sizeLine = 16777216 := rfl
  unfold x__law_scan
  simp -implicitDefEqProofs
  refine foI ?_
  simp -implicitDefEqProofs
  refine ⟨by omega, cmul_r (by omega) (by omega), by omega, ?_⟩
  refine forI (ScI s K0) ⟨.want [] 0, r, [], none, none, none, none, none, none, by simp [stkO, Stt.pn, Stt.isW, mO, Stt.lev, Stt.nod, levP, nodP, Stt.at'], by simp [Stt.at'], by omega, by simp [Stt.pn], by simp, by simp, hk⟩ ?_ ?_
  · rintro i u ρ hu ⟨st, r, ms0, x6, x8, x9, x10, x11, x12, rfl, ha, hia, hpa, hm0, hm1, hk⟩
    have hlen : ((ms0.map mO) ++ [mO (st.lev, st.nod)]).length = ms0.length + 1 := by simp
    simp -implicitDefEqProofs
    rw [ixN_m1 _ (by omega)]
    simp -implicitDefEqProofs
    refine ⟨mO (st.lev, st.nod), by simp, fun v => ?_⟩
    have hs1 : ((ms0.map mO) ++ [mO (st.lev, st.nod)]).set ms0.length (.sh (.adr v)) = (ms0.map mO) ++ [.sh (.adr v)] := by
      have := take_m (ms0.map mO) (mO (st.lev, st.nod)) (.sh (.adr v))
      rwa [List.length_map] at this
    have hs2 : ∀ y : O, ((ms0.map mO) ++ [O.sh (.adr v)]).set ms0.length y = (ms0.map mO) ++ [y] := fun y => by
      have := take_m (ms0.map mO) (.sh (.adr v)) y
      rwa [List.length_map] at this
    have hg1 : ((ms0.map mO) ++ [O.sh (.adr v)])[ms0.length]? = some (.sh (.adr v)) := by simp
    have o40 : PyData.strOk ⟨#[40]⟩ = true := stO (by decide)
    have o91 : PyData.strOk ⟨#[91]⟩ = true := stO (by decide)
    cases st with
    | want p a =>
      have ha : a ≤ s.length := ha
      have hia : i ≤ a := hia
      have hpa : p.length ≤ a := hpa
      have hcut : cutS s (some (a : Int)) (some ((a : Int) + 1)) = sbT s.cps.toList a (a + 1) := cutS_mid s a (a + 1)
      have hok := sbT_ok hso a (a + 1)
      by_cases q1 : s.cps.toList[a]? = some 40
      · have hq : sbT s.cps.toList a (a + 1) = ⟨#[40]⟩ := sbT1.mpr q1
        have hst : stepM numV s.cps.toList (.want p a) = .go (.want (.opn :: p) (a + 1)) := by simp only [stepM]; rw [if_pos q1]
        obtain ⟨g1, g2⟩ := step_go hst (show a ≤ _ by omega)
        have g2' : a + 1 ≤ s.length := by rw [hl2]; exact g2
        obtain ⟨l1, l2, l3⟩ := step_lev hst
        have next : ∀ (lv nd at' : Int) (y : Option O), lv = ((Stt.want (.opn :: p) (a + 1)).lev : Nat) → nd = ((Stt.want (.opn :: p) (a + 1)).nod : Nat) → at' = (a : Int) + 1 →
            ScI s K0 (i + 1) [some (O.sh (.str s)), some (.sh (.int (if r = true then 1 else 0))), some (.lst ((p.map fun q => O.sh (.str (symS q))).reverse ++ [.sh (.str ⟨#[40]⟩)])), some (.lst ((ms0.map mO) ++ [O.lst [.sh (.int lv), .sh (.int nd)]])), some (.sh (.bl true)), some (.sh (.int at')), y, none, x8, x9, x10, x11, x12] := fun lv nd at' y h1 h2 h3 => by
          subst h1 h2 h3
          refine ⟨.want (.opn :: p) (a + 1), r, ms0, y, x8, x9, x10, x11, x12, by simp [stkO, Stt.pn, symS, e40, Stt.isW, Stt.at', mO], g2', by simp [Stt.at']; omega, by simp [Stt.pn, Stt.at']; omega, hm0, hm1, fun at' ms hS => hk at' ms ?_⟩
          rw [SR_go hst (show a ≤ _ by omega)]
          exact hS
        simp -implicitDefEqProofs [hs1, Stt.isW, Stt.pn, Stt.at', hcut, hq, e40, e91, o40, o91, q1, stkO, mO, ixN_21, ixN_20]
        refine ⟨by omega, by omega, ?_⟩
        by_cases c : (Stt.want p a).lev ≤ p.length + 1
        · have c' : ((Stt.want p a).lev : Int) ≤ (p.length : Int) + 1 := by omega
          simp -implicitDefEqProofs [c, c']
          refine putI ms0.length v _ rfl rfl hg1 rfl ?_
          simp -implicitDefEqProofs
          exact next _ _ _ _ (by rw [l2]; omega) (by rw [l3]; omega) rfl
        · have c' : ¬ ((Stt.want p a).lev : Int) ≤ (p.length : Int) + 1 := by omega
          simp -implicitDefEqProofs [c, c']
          refine putI ms0.length v _ rfl rfl hg1 rfl ?_
          simp -implicitDefEqProofs
          exact next _ _ _ _ (by rw [l2]; omega) (by rw [l3]; omega) rfl
      by_cases q2 : s.cps.toList[a]? = some 91
      · have hq : sbT s.cps.toList a (a + 1) = ⟨#[91]⟩ := sbT1.mpr q2
        have hst : stepM numV s.cps.toList (.want p a) = .go (.want (.sel :: p) (a + 1)) := by simp only [stepM]; rw [if_neg q1, if_pos q2]
        obtain ⟨g1, g2⟩ := step_go hst (show a ≤ _ by omega)
        have g2' : a + 1 ≤ s.length := by rw [hl2]; exact g2
        obtain ⟨l1, l2, l3⟩ := step_lev hst
        have next : ∀ (lv nd at' : Int) (y : Option O), lv = ((Stt.want (.sel :: p) (a + 1)).lev : Nat) → nd = ((Stt.want (.sel :: p) (a + 1)).nod : Nat) → at' = (a : Int) + 1 →
            ScI s K0 (i + 1) [some (O.sh (.str s)), some (.sh (.int (if r = true then 1 else 0))), some (.lst ((p.map fun q => O.sh (.str (symS q))).reverse ++ [.sh (.str ⟨#[91]⟩)])), some (.lst ((ms0.map mO) ++ [O.lst [.sh (.int lv), .sh (.int nd)]])), some (.sh (.bl true)), some (.sh (.int at')), y, none, x8, x9, x10, x11, x12] := fun lv nd at' y h1 h2 h3 => by
          subst h1 h2 h3
          refine ⟨.want (.sel :: p) (a + 1), r, ms0, y, x8, x9, x10, x11, x12, by simp [stkO, Stt.pn, symS, e91, Stt.isW, Stt.at', mO], g2', by simp [Stt.at']; omega, by simp [Stt.pn, Stt.at']; omega, hm0, hm1, fun at' ms hS => hk at' ms ?_⟩
          rw [SR_go hst (show a ≤ _ by omega)]
          exact hS
        simp -implicitDefEqProofs [hs1, Stt.isW, Stt.pn, Stt.at', hcut, hq, e40, e91, o40, o91, q2, stkO, mO, ixN_21, ixN_20, (by decide : ¬ ((⟨#[91]⟩ : Str) = ⟨#[40]⟩))]
        refine ⟨by omega, by omega, ?_⟩
        by_cases c : (Stt.want p a).lev ≤ p.length + 1
        · have c' : ((Stt.want p a).lev : Int) ≤ (p.length : Int) + 1 := by omega
          simp -implicitDefEqProofs [c, c']
          refine putI ms0.length v _ rfl rfl hg1 rfl ?_
          simp -implicitDefEqProofs
          exact next _ _ _ _ (by rw [l2]; omega) (by rw [l3]; omega) rfl
        · have c' : ¬ ((Stt.want p a).lev : Int) ≤ (p.length : Int) + 1 := by omega
          simp -implicitDefEqProofs [c, c']
          refine putI ms0.length v _ rfl rfl hg1 rfl ?_
          simp -implicitDefEqProofs
          exact next _ _ _ _ (by rw [l2]; omega) (by rw [l3]; omega) rfl
      have h1 : ¬ (sbT s.cps.toList a (a + 1) = ⟨#[40]⟩) := fun z => q1 (sbT1.mp z)
      have h2 : ¬ (sbT s.cps.toList a (a + 1) = ⟨#[91]⟩) := fun z => q2 (sbT1.mp z)
      have h1' : ¬ ((⟨#[40]⟩ : Str) = sbT s.cps.toList a (a + 1)) := fun z => h1 z.symm
      have h2' : ¬ ((⟨#[91]⟩ : Str) = sbT s.cps.toList a (a + 1)) := fun z => h2 z.symm
      obtain ⟨b1, b2⟩ := leafEnd_in (L := s.cps.toList) (a := a) (by omega)
      have hcutE : cutS s (some (a : Int)) (some (leafEnd s.cps.toList a : Int)) = sbT s.cps.toList a (leafEnd s.cps.toList a) := cutS_mid s a _
      have hokE := sbT_ok hso a (leafEnd s.cps.toList a)
      have o63 : PyData.strOk ⟨#[63]⟩ = true := stO (by decide)
      simp -implicitDefEqProofs [hs1, Stt.isW, Stt.pn, Stt.at', hcut, e40, e91, o40, o91, hok, h1, h2, h1', h2', stkO, mO]
      refine ⟨by omega, s, a, rfl, ⟨hso, hsl⟩, ha, ?_⟩
      have e63' : ∀ E, E ≤ s.length → a ≤ E → (sbT s.cps.toList a E = ⟨#[63]⟩ ↔ s.cps.toList[a]? = some 63 ∧ E = a + 1) := fun E hE hE2 => by
        constructor
        · intro z
          have h3 : (s.cps.toList.drop a).take (E - a) = [63] := congrArg (fun s : Str => s.cps.toList) z
          have h4 := congrArg List.length h3
          rw [List.length_take, List.length_drop] at h4
          have h5 : min (E - a) (s.cps.toList.length - a) = 1 := h4
          have e : E = a + 1 := by omega
          subst e
          exact ⟨sbT1.mp z, rfl⟩
        · rintro ⟨z, rfl⟩
          exact sbT1.mpr z
      have bad : leafBad s.cps.toList a = true → ∀ lv nd : Int, lv = ((Stt.want p a).lev : Nat) → nd = ((Stt.want p a).nod : Nat) → K0 (.sh (.tup [.int (leafEnd s.cps.toList a : Nat), .lst ((ms0.map fun m => O.t (mO m)) ++ [.lst [.int lv, .int nd]])])) := fun hb lv nd h1 h2 => by
        have hst : stepM numV s.cps.toList (.want p a) = .fin (.err (leafEnd s.cps.toList a)) := by simp only [stepM]; rw [if_neg q1, if_neg q2, if_pos hb]
        have := hk _ _ (SR_err (ms := ms0 ++ [((Stt.want p a).lev, (Stt.want p a).nod)]) hst (by simp))
        subst h1 h2
        rw [List.map_append] at this
        have e : (ms0.map fun m => O.t (mO m)) = ms0.map mT := List.map_congr_left fun m _ => by simp [mO, mT]
        rw [e]
        simpa [mT] using this
      simp -implicitDefEqProofs
      by_cases c1 : leafEnd s.cps.toList a = a
      · have c1' : (leafEnd s.cps.toList a : Int) = (a : Int) := by omega
        simp -implicitDefEqProofs [c1']
        refine putI ms0.length v _ rfl rfl hg1 rfl ?_
        simp -implicitDefEqProofs
        have := bad (by unfold leafBad; rw [decide_eq_true c1]; rfl) _ _ rfl rfl
        rw [c1] at this
        exact this
      · have c1' : ¬ (leafEnd s.cps.toList a : Int) = (a : Int) := by omega
        by_cases c2 : s.cps.toList[a]? = some 63 ∧ leafEnd s.cps.toList a = a + 1
        · have hq := (e63' (leafEnd s.cps.toList a) (by omega) b1).mpr c2
          simp -implicitDefEqProofs [c1', hcutE, hq, o63]
          refine ⟨by omega, ?_⟩
          refine putI ms0.length v _ rfl rfl hg1 rfl ?_
          simp -implicitDefEqProofs
          exact bad (by unfold leafBad; rw [decide_eq_true c2.1, decide_eq_true c2.2]; simp) _ _ rfl rfl
        · have hq : ¬ (sbT s.cps.toList a (leafEnd s.cps.toList a) = ⟨#[63]⟩) := fun z => c2 ((e63' (leafEnd s.cps.toList a) (by omega) b1).mp z)
          have hb : leafBad s.cps.toList a = false := by
            unfold leafBad
            rw [decide_eq_false c1, Bool.false_or]
            by_cases z : s.cps.toList[a]? = some 63
            · rw [decide_eq_true z, decide_eq_false (fun y => c2 ⟨z, y⟩)]; rfl
            · rw [decide_eq_false z]; rfl
          have hst : stepM numV s.cps.toList (.want p a) = .go (.have_ p (leafEnd s.cps.toList a) (leafF numV s.cps.toList a)) := by simp only [stepM]; rw [if_neg q1, if_neg q2, if_neg (by rw [hb]; decide)]
          obtain ⟨l1, l2, l3⟩ := step_lev hst
          simp -implicitDefEqProofs [c1', hcutE, hq, o63, hokE, ixN_21]
          refine ⟨by omega, ?_⟩
          refine putI ms0.length v _ rfl rfl hg1 rfl ?_
          simp -implicitDefEqProofs
          have next : ∀ (lv nd : Int) (y : Option O), lv = ((Stt.have_ p (leafEnd s.cps.toList a) (leafF numV s.cps.toList a)).lev : Nat) → nd = ((Stt.have_ p (leafEnd s.cps.toList a) (leafF numV s.cps.toList a)).nod : Nat) →
            ScI s K0 (i + 1) [some (O.sh (.str s)), some (.sh (.int (if r = true then 1 else 0))), some (.lst (p.map fun q => O.sh (.str (symS q))).reverse), some (.lst ((ms0.map mO) ++ [O.lst [.sh (.int lv), .sh (.int nd)]])), some (.sh (.bl false)), some (.sh (.int (leafEnd s.cps.toList a : Nat))), y, none, some (.sh (.int (leafEnd s.cps.toList a : Nat))), x9, x10, x11, x12] := fun lv nd y h1 h2 => by
            subst h1 h2
            refine ⟨.have_ p (leafEnd s.cps.toList a) (leafF numV s.cps.toList a), r, ms0, y, _, x9, x10, x11, x12, by simp [stkO, Stt.pn, Stt.isW, Stt.at', mO]; rfl, by rw [hl2]; exact b2, by simp [Stt.at']; omega, by simp [Stt.pn, Stt.at']; omega, hm0, hm1, fun at' ms hS => hk at' ms ?_⟩
            rw [SR_go hst (show a ≤ _ by omega)]
            exact hS
          exact next _ _ _ (by rw [l2]) (by rw [l3]; omega)
    | have_ p a f =>
      have ha : a ≤ s.length := ha
      have hia : i ≤ a := hia
      have hpa : p.length ≤ a := hpa
      simp -implicitDefEqProofs [hs1, Stt.isW, Stt.pn, Stt.at', stkO, mO]
      refine putI ms0.length v _ rfl rfl hg1 rfl ?_
      cases p with
      | nil =>
        cases r with
        | false =>
          have hrun := run_fin (show stepM numV s.cps.toList (.have_ [] a f) = .fin (.don f a) from rfl)
          have e : (ms0.map fun m => O.t (mO m)) = ms0.map mT := List.map_congr_left fun m _ => by simp [mO, mT]
          have l0 : (Stt.have_ [] a f).lev = f.dep ∧ (Stt.have_ [] a f).nod = f.sz := by simp [Stt.lev, Stt.nod, levP, nodP]
          have fin := fun z => hk z (ms0 ++ [(f.dep, f.sz)])
          by_cases c : a = s.length
          · have c' : (a : Int) = (s.length : Int) := by omega
            have := fin (-1) (by unfold SR SR0; rw [if_pos rfl, hrun]; exact ⟨by rw [if_pos (by omega)], rfl⟩)
            simp -implicitDefEqProofs [c']
            refine ⟨by omega, ?_⟩
            rw [l0.1, l0.2, e]
            simpa [mT] using this
          · have c' : ¬ (a : Int) = (s.length : Int) := by omega
            have := fin (a : Int) (by unfold SR SR0; rw [if_pos rfl, hrun]; exact ⟨by rw [if_neg (by omega)], rfl⟩)
            simp -implicitDefEqProofs [c']
            refine ⟨by omega, ?_⟩
            rw [l0.1, l0.2, e]
            simpa [mT] using this
        | true =>
          simp -implicitDefEqProofs
          refine ⟨.lst [.str " <= "], by simp [dixT, keyT, lookT, List.lookup_cons, inr_beq], ?_⟩
          simp -implicitDefEqProofs
          refine lcI ?_
          simp -implicitDefEqProofs
          refine compMap (f := cmO s.cps.toList a) rfl (by simp) ?_ ?_
          · simp -implicitDefEqProofs [cmO]
            have ew : (" <= " : Str).cps.toList = wLe := by decide +kernel
            have el : (" <= " : Str).length = 4 := by decide +kernel
            refine ⟨[" <= "], by simp, ?_⟩
            simp -implicitDefEqProofs
            refine ⟨_, 0, rfl, rfl, by simp, ?_⟩
            simp -implicitDefEqProofs
            rw [ew, el]
            have hc4 := cmn_le s.cps.toList wLe a
            have hw4 : wLe.length = 4 := rfl
            have hin := cmn_in s.cps.toList wLe a (by omega)
            have hrun := run_fin (show stepM numV s.cps.toList (.have_ [] a f) = .fin (.don f a) from rfl)
            have e : (ms0.map fun m => O.t (mO m)) = ms0.map mT := List.map_congr_left fun m _ => by simp [mO, mT]
            have l0 : (Stt.have_ [] a f).lev = f.dep ∧ (Stt.have_ [] a f).nod = f.sz := by simp [Stt.lev, Stt.nod, levP, nodP]
            by_cases c : cmn s.cps.toList wLe a = 4
            · have c' : ¬ (cmn s.cps.toList wLe a : Int) < 4 := by omega
              simp -implicitDefEqProofs [c, c', el]
              refine ⟨by omega, .want [] (a + 4), false, ms0 ++ [(f.dep, f.sz)], some (.sh u), x8, some (.sh (.str "row")), some (.sh (.lst [.str " <= "])), some (.sh (.lst [.int 4])), some (.sh (.str " <= ")), by simp [stkO, Stt.pn, Stt.isW, Stt.at', mO, Stt.lev, Stt.nod, levP, nodP], by simp [Stt.at']; omega, by simp [Stt.at']; omega, by simp [Stt.pn], ?_, by simp, fun at' ms hS => hk at' ms ?_⟩
              · have h1 : ms0.length ≠ 1 := fun z => by have := hm1 z; cases this
                rw [List.length_append]
                simp only [List.length_cons, List.length_nil]
                omega
              · unfold SR
                rw [if_neg (by decide), hrun]
                show (if cmn s.cps.toList wLe a = 4 then _ else _)
                rw [if_pos c]
                unfold SR at hS
                rw [if_pos rfl] at hS
                exact hS
            · have c' : (cmn s.cps.toList wLe a : Int) < 4 := by omega
              have := hk ((a + cmn s.cps.toList wLe a : Nat) : Int) (ms0 ++ [(f.dep, f.sz)]) (by
                unfold SR
                rw [if_neg (by decide), hrun]
                show (if cmn s.cps.toList wLe a = 4 then _ else _)
                rw [if_neg c]
                exact ⟨rfl, by simp⟩)
              have clt : cmn s.cps.toList wLe a < 4 := by omega
              simp -implicitDefEqProofs [c', clt, el]
              refine ⟨[" <= "], by simp, ?_⟩
              simp -implicitDefEqProofs
              refine ⟨_, 0, rfl, rfl, by simp, ?_⟩
              simp -implicitDefEqProofs
              rw [l0.1, l0.2, e]
              simpa [mT] using this
          · intro t ht C E hE
            have : t = .str " <= " := by simpa using ht
            subst this
            simp -implicitDefEqProofs
            refine ⟨s, " <= ", a, rfl, ⟨hso, hsl⟩, by decide +kernel, by decide +kernel, ha, ?_⟩
            simp -implicitDefEqProofs
            exact hE _ rfl
      | cons q p =>
        have q0 : ¬ ((p.length : Int) + 1 = 0) := by omega
        have hpa' : p.length + 1 ≤ a := by simpa using hpa
        cases q with
        | opn =>
          simp -implicitDefEqProofs [q0, sy1]
          refine ⟨by omega, ?_⟩
          rw [gl_last]
          simp -implicitDefEqProofs
          refine ⟨.lst [.str " -> ", .str " * "], by simp [dixT, keyT, lookT, List.lookup_cons, inr_beq], ?_⟩
          simp -implicitDefEqProofs
          refine lcI ?_
          simp -implicitDefEqProofs
          refine compMap (f := cmO s.cps.toList a) rfl (by simp) ?_ ?_
          · simp -implicitDefEqProofs [cmO]
            have e1 : (" -> " : Str).cps.toList = wFn := by decide +kernel
            have e2 : (" * " : Str).cps.toList = wPr := by decide +kernel
            have n1 : (" -> " : Str).length = 4 := by decide +kernel
            have n2 : (" * " : Str).length = 3 := by decide +kernel
            have hne : ¬ ((" -> " : Str) = " * ") := by decide +kernel
            have e : (ms0.map fun m => O.t (mO m)) = ms0.map mT := List.map_congr_left fun m _ => by simp [mO, mT]
            have hpr := isPr_cmn s.cps.toList a
            rw [e1, e2]
            cases hb : isPr s.cps.toList a with
            | true =>
              rw [hb] at hpr
              have c0 : cmn s.cps.toList wFn a < cmn s.cps.toList wPr a := by simpa using hpr.symm
              simp -implicitDefEqProofs [c0]
              refine ⟨[" -> ", " * "], by simp, ?_⟩
              simp -implicitDefEqProofs
              refine ⟨_, 1, rfl, rfl, fun m hm z => ?_, ?_⟩
              · have : m = 0 := by omega
                subst this
                exact hne (by simpa using z)
              simp -implicitDefEqProofs [e1, e2, n2]
              have hcl := cmn_le s.cps.toList wPr a
              by_cases c : cmn s.cps.toList wPr a = 3
              · have c' : ¬ (cmn s.cps.toList wPr a : Int) < 3 := by omega
                have c2 : ¬ cmn s.cps.toList wPr a < 3 := by omega
                have hst : stepM numV s.cps.toList (.have_ (.opn :: p) a f) = .go (.want (.mid false f :: p) (a + 3)) := by simp only [stepM]; rw [if_pos hb]; rw [if_pos c]
                obtain ⟨g1, g2⟩ := step_go hst (show a ≤ _ by omega)
                obtain ⟨l1, l2, l3⟩ := step_lev hst
                simp -implicitDefEqProofs [c', c2, c, n2]
                rw [ixN_m1 _ (by omega)]
                have hset : ∀ x y : O, (((p.map fun q => O.sh (.str (symS q))).reverse ++ [x]).set p.length y) = (p.map fun q => O.sh (.str (symS q))).reverse ++ [y] := fun x y => by
                  have := take_m (p.map fun q => O.sh (.str (symS q))).reverse x y
                  rwa [List.length_reverse, List.length_map] at this
                simp -implicitDefEqProofs [hset]
                refine ⟨.want (.mid false f :: p) (a + 3), r, ms0, some (.sh u), _, _, _, _, _, by simp [stkO, Stt.pn, symS, Stt.isW, Stt.at', mO, l2, l3]; exact ⟨rfl, rfl, rfl, rfl, rfl⟩, by rw [hl2]; exact g2, by simp [Stt.at']; omega, by simp [Stt.pn, Stt.at']; omega, hm0, hm1, fun at' ms hS => hk at' ms ?_⟩
                rw [SR_go hst (show a ≤ _ by omega)]
                exact hS
              · have c' : (cmn s.cps.toList wPr a : Int) < 3 := by have : wPr.length = 3 := rfl; omega
                have c2 : cmn s.cps.toList wPr a < 3 := by have : wPr.length = 3 := rfl; omega
                have hst : stepM numV s.cps.toList (.have_ (.opn :: p) a f) = .fin (.err (a + cmn s.cps.toList wPr a)) := by simp only [stepM]; rw [if_pos hb]; rw [if_neg c]
                have := hk _ _ (SR_err (ms := ms0 ++ [((Stt.have_ (.opn :: p) a f).lev, (Stt.have_ (.opn :: p) a f).nod)]) hst (by simp))
                simp -implicitDefEqProofs [c', c2]
                refine ⟨[" -> ", " * "], by simp, ?_⟩
                simp -implicitDefEqProofs
                refine ⟨_, 1, rfl, rfl, fun m hm z => ?_, ?_⟩
                · have : m = 0 := by omega
                  subst this
                  exact hne (by simpa using z)
                simp -implicitDefEqProofs [e1, e2]
                rw [e]
                simpa [mT] using this
            | false =>
              rw [hb] at hpr
              have c0 : ¬ cmn s.cps.toList wFn a < cmn s.cps.toList wPr a := by simpa using hpr.symm
              simp -implicitDefEqProofs [c0]
              refine ⟨[" -> ", " * "], by simp, ?_⟩
              simp -implicitDefEqProofs
              refine ⟨_, 0, rfl, rfl, by simp, ?_⟩
              simp -implicitDefEqProofs [e1, e2, n1]
              have hcl := cmn_le s.cps.toList wFn a
              by_cases c : cmn s.cps.toList wFn a = 4
              · have c' : ¬ (cmn s.cps.toList wFn a : Int) < 4 := by omega
                have c2 : ¬ cmn s.cps.toList wFn a < 4 := by omega
                have hst : stepM numV s.cps.toList (.have_ (.opn :: p) a f) = .go (.want (.mid true f :: p) (a + 4)) := by simp only [stepM]; rw [if_neg (by rw [hb]; decide)]; rw [if_pos c]
                obtain ⟨g1, g2⟩ := step_go hst (show a ≤ _ by omega)
                obtain ⟨l1, l2, l3⟩ := step_lev hst
                simp -implicitDefEqProofs [c', c2, c, n1]
                rw [ixN_m1 _ (by omega)]
                have hset : ∀ x y : O, (((p.map fun q => O.sh (.str (symS q))).reverse ++ [x]).set p.length y) = (p.map fun q => O.sh (.str (symS q))).reverse ++ [y] := fun x y => by
                  have := take_m (p.map fun q => O.sh (.str (symS q))).reverse x y
                  rwa [List.length_reverse, List.length_map] at this
                simp -implicitDefEqProofs [hset]
                refine ⟨.want (.mid true f :: p) (a + 4), r, ms0, some (.sh u), _, _, _, _, _, by simp [stkO, Stt.pn, symS, Stt.isW, Stt.at', mO, l2, l3]; exact ⟨rfl, rfl, rfl, rfl, rfl⟩, by rw [hl2]; exact g2, by simp [Stt.at']; omega, by simp [Stt.pn, Stt.at']; omega, hm0, hm1, fun at' ms hS => hk at' ms ?_⟩
                rw [SR_go hst (show a ≤ _ by omega)]
                exact hS
              · have c' : (cmn s.cps.toList wFn a : Int) < 4 := by have : wFn.length = 4 := rfl; omega
                have c2 : cmn s.cps.toList wFn a < 4 := by have : wFn.length = 4 := rfl; omega
                have hst : stepM numV s.cps.toList (.have_ (.opn :: p) a f) = .fin (.err (a + cmn s.cps.toList wFn a)) := by simp only [stepM]; rw [if_neg (by rw [hb]; decide)]; rw [if_neg c]
                have := hk _ _ (SR_err (ms := ms0 ++ [((Stt.have_ (.opn :: p) a f).lev, (Stt.have_ (.opn :: p) a f).nod)]) hst (by simp))
                simp -implicitDefEqProofs [c', c2]
                refine ⟨[" -> ", " * "], by simp, ?_⟩
                simp -implicitDefEqProofs
                refine ⟨_, 0, rfl, rfl, by simp, ?_⟩
                simp -implicitDefEqProofs [e1, e2]
                rw [e]
                simpa [mT] using this
          · intro t ht C E hE
            obtain ⟨w, rfl, w1, w2⟩ : ∃ w : Str, t = .str w ∧ PyData.strOk w = true ∧ w.length ≤ 10 := by
              simp only [List.mem_cons, List.not_mem_nil, or_false] at ht
              first
                | (rcases ht with rfl | rfl <;> exact ⟨_, rfl, by decide +kernel, by decide +kernel⟩)
                | (subst ht; exact ⟨_, rfl, by decide +kernel, by decide +kernel⟩)
            simp -implicitDefEqProofs
            refine ⟨s, w, a, rfl, ⟨hso, hsl⟩, w1, w2, ha, ?_⟩
            simp -implicitDefEqProofs
            exact hE _ rfl
        | mid b y =>
          simp -implicitDefEqProofs [q0, sy2]
          refine ⟨by omega, ?_⟩
          rw [gl_last]
          simp -implicitDefEqProofs
          refine ⟨.lst [.str ")"], by simp [dixT, keyT, lookT, List.lookup_cons, inr_beq], ?_⟩
          simp -implicitDefEqProofs
          refine lcI ?_
          simp -implicitDefEqProofs
          refine compMap (f := cmO s.cps.toList a) rfl (by simp) ?_ ?_
          · simp -implicitDefEqProofs [cmO]
            have ew : (")" : Str).cps.toList = [41] := by decide +kernel
            have el : (")" : Str).length = 1 := by decide +kernel
            refine ⟨[")"], by simp, ?_⟩
            simp -implicitDefEqProofs
            refine ⟨_, 0, rfl, rfl, by simp, ?_⟩
            simp -implicitDefEqProofs
            rw [ew, el]
            have e : (ms0.map fun m => O.t (mO m)) = ms0.map mT := List.map_congr_left fun m _ => by simp [mO, mT]
            by_cases c : s.cps.toList[a]? = some 41
            · have c1 : cmn s.cps.toList [41] a = 1 := by rw [cmn_some c]; rfl
              have hst : stepM numV s.cps.toList (.have_ (.mid b y :: p) a f) = .go (.have_ p (a + 1) (hdF b y f)) := by simp only [stepM]; rw [if_pos c]
              obtain ⟨g1, g2⟩ := step_go hst (show a ≤ _ by omega)
              obtain ⟨l1, l2, l3⟩ := step_lev hst
              simp -implicitDefEqProofs [c1, el]
              refine ⟨.have_ p (a + 1) (hdF b y f), r, ms0, some (.sh u), x8, some (.sh (.str ",")), some (.sh (.lst [.str ")"])), some (.sh (.lst [.int 1])), some (.sh (.str ")")), by simp [stkO, Stt.pn, Stt.isW, Stt.at', mO, l2, l3], by rw [hl2]; exact g2, by simp [Stt.at']; omega, by simp [Stt.pn, Stt.at']; omega, hm0, hm1, fun at' ms hS => hk at' ms ?_⟩
              rw [SR_go hst (show a ≤ _ by omega)]
              exact hS
            · have c1 : cmn s.cps.toList [41] a = 0 := cmn_none c
              have hst : stepM numV s.cps.toList (.have_ (.mid b y :: p) a f) = .fin (.err a) := by simp only [stepM]; rw [if_neg c]
              have := hk _ _ (SR_err (ms := ms0 ++ [((Stt.have_ (.mid b y :: p) a f).lev, (Stt.have_ (.mid b y :: p) a f).nod)]) hst (by simp))
              simp -implicitDefEqProofs [c1, el]
              refine ⟨[")"], by simp, ?_⟩
              simp -implicitDefEqProofs
              refine ⟨_, 0, rfl, rfl, by simp, ?_⟩
              simp -implicitDefEqProofs
              rw [e]
              simpa [mT] using this
          · intro t ht C E hE
            obtain ⟨w, rfl, w1, w2⟩ : ∃ w : Str, t = .str w ∧ PyData.strOk w = true ∧ w.length ≤ 10 := by
              simp only [List.mem_cons, List.not_mem_nil, or_false] at ht
              first
                | (rcases ht with rfl | rfl <;> exact ⟨_, rfl, by decide +kernel, by decide +kernel⟩)
                | (subst ht; exact ⟨_, rfl, by decide +kernel, by decide +kernel⟩)
            simp -implicitDefEqProofs
            refine ⟨s, w, a, rfl, ⟨hso, hsl⟩, w1, w2, ha, ?_⟩
            simp -implicitDefEqProofs
            exact hE _ rfl
        | sel =>
          simp -implicitDefEqProofs [q0, sy3]
          refine ⟨by omega, ?_⟩
          rw [gl_last]
          simp -implicitDefEqProofs
          refine ⟨.lst [.str "]"], by simp [dixT, keyT, lookT, List.lookup_cons, inr_beq], ?_⟩
          simp -implicitDefEqProofs
          refine lcI ?_
          simp -implicitDefEqProofs
          refine compMap (f := cmO s.cps.toList a) rfl (by simp) ?_ ?_
          · simp -implicitDefEqProofs [cmO]
            have ew : ("]" : Str).cps.toList = [93] := by decide +kernel
            have el : ("]" : Str).length = 1 := by decide +kernel
            refine ⟨["]"], by simp, ?_⟩
            simp -implicitDefEqProofs
            refine ⟨_, 0, rfl, rfl, by simp, ?_⟩
            simp -implicitDefEqProofs
            rw [ew, el]
            have e : (ms0.map fun m => O.t (mO m)) = ms0.map mT := List.map_congr_left fun m _ => by simp [mO, mT]
            by_cases c : s.cps.toList[a]? = some 93
            · have c1 : cmn s.cps.toList [93] a = 1 := by rw [cmn_some c]; rfl
              have hst : stepM numV s.cps.toList (.have_ (.sel :: p) a f) = .go (.have_ p (a + 1) (.sel f)) := by simp only [stepM]; rw [if_pos c]
              obtain ⟨g1, g2⟩ := step_go hst (show a ≤ _ by omega)
              obtain ⟨l1, l2, l3⟩ := step_lev hst
              simp -implicitDefEqProofs [c1, el]
              refine ⟨.have_ p (a + 1) (.sel f), r, ms0, some (.sh u), x8, some (.sh (.str "[")), some (.sh (.lst [.str "]"])), some (.sh (.lst [.int 1])), some (.sh (.str "]")), by simp [stkO, Stt.pn, Stt.isW, Stt.at', mO, l2, l3], by rw [hl2]; exact g2, by simp [Stt.at']; omega, by simp [Stt.pn, Stt.at']; omega, hm0, hm1, fun at' ms hS => hk at' ms ?_⟩
              rw [SR_go hst (show a ≤ _ by omega)]
              exact hS
            · have c1 : cmn s.cps.toList [93] a = 0 := cmn_none c
              have hst : stepM numV s.cps.toList (.have_ (.sel :: p) a f) = .fin (.err a) := by simp only [stepM]; rw [if_neg c]
              have := hk _ _ (SR_err (ms := ms0 ++ [((Stt.have_ (.sel :: p) a f).lev, (Stt.have_ (.sel :: p) a f).nod)]) hst (by simp))
              simp -implicitDefEqProofs [c1, el]
              refine ⟨["]"], by simp, ?_⟩
              simp -implicitDefEqProofs
              refine ⟨_, 0, rfl, rfl, by simp, ?_⟩
              simp -implicitDefEqProofs
              rw [e]
              simpa [mT] using this
          · intro t ht C E hE
            obtain ⟨w, rfl, w1, w2⟩ : ∃ w : Str, t = .str w ∧ PyData.strOk w = true ∧ w.length ≤ 10 := by
              simp only [List.mem_cons, List.not_mem_nil, or_false] at ht
              first
                | (rcases ht with rfl | rfl <;> exact ⟨_, rfl, by decide +kernel, by decide +kernel⟩)
                | (subst ht; exact ⟨_, rfl, by decide +kernel, by decide +kernel⟩)
            simp -implicitDefEqProofs
            refine ⟨s, w, a, rfl, ⟨hso, hsl⟩, w1, w2, ha, ?_⟩
            simp -implicitDefEqProofs
            exact hE _ rfl
  · rintro ρ ⟨st, r, ms0, x6, x8, x9, x10, x11, x12, rfl, ha, hia, hpa, hm0, hm1, hk⟩
    rw [range_len] at hia
    exfalso
    omega
end Rd
end TL
set_option maxHeartbeats 4000000
namespace TL
open PySem PySem.Spec PyProof.Rows L2
namespace Rd
end Rd
end TL
set_option maxHeartbeats 4000000
namespace TL
open PySem PySem.Spec PyProof.Rows L2
namespace Rd
/-- leaves that a text can have -/
def lfG : Fo → Prop
  | .kind s => PyData.strOk s = true ∧ s.length ≤ 10 ∧ ∀ c ∈ s.cps.toList, isL c = true ∨ isG c = true
  | .var n => n ≤ 9999
  | _ => False
theorem mem36 {c : Nat} (h : isL c = true ∨ isG c = true) : c ∈ ("abcdefghijklmnopqrstuvwxyz0123456789" : Str).cps.toList := by
  have e : ("abcdefghijklmnopqrstuvwxyz0123456789" : Str).cps.toList = [97, 98, 99, 100, 101, 102, 103, 104, 105, 106, 107, 108, 109, 110, 111, 112, 113, 114, 115, 116, 117, 118, 119, 120, 121, 122, 48, 49, 50, 51, 52, 53, 54, 55, 56, 57] := by decide +kernel
  rw [e]
  unfold isL isG at h
  simp only [Bool.and_eq_true, decide_eq_true_eq] at h
  simp only [List.mem_cons, List.not_mem_nil, or_false]
  omega
def lvsF (l : List Fo) : Prop := ∀ f ∈ l, f.lv lfG
theorem lv_kidsF {f : Fo} (h : f.lv lfG) : lvsF f.kids := by
  cases f with
  | fn a b => intro g hg; simp [Fo.kids] at hg; rcases hg with rfl | rfl; exact h.1; exact h.2
  | pr a b => intro g hg; simp [Fo.kids] at hg; rcases hg with rfl | rfl; exact h.1; exact h.2
  | sel a => intro g hg; simp [Fo.kids] at hg; subst hg; exact h
  | _ => intro g hg; simp [Fo.kids] at hg
def g__law_is_form : GT := fun ts K _ => ∃ f : Fo, ts = [f.T] ∧ f.lv lfG ∧ f.sz ≤ 19000 ∧ K (.sh (.bl true))
theorem pl__law_is_form (ts : List T) (K0 : O → Prop) (Z0 : ZX) (h : g__law_is_form ts K0 Z0) : x__law_is_form (endP K0 Z0) (TL.slots 5 ts) := by
  obtain ⟨f, rfl, hlv, hsz, hk⟩ := h
  have hz : sizeLine = 16777216 := rfl
  unfold x__law_is_form
  simp -implicitDefEqProofs
  refine foI ?_
  simp -implicitDefEqProofs
  refine forI (fun i ρ => ∃ (q : List Fo) (x2 x3 : Option O), ρ = [some (.sh f.T), some (.lst (q.map fun g => .sh g.T)), x2, x3, none] ∧ lvsF q ∧ Fos.sz q + i ≤ f.sz) ⟨[f], none, none, by simp, fun g hg => by rw [List.mem_singleton.mp hg]; exact hlv, by simp⟩ ?_ ?_
  · rintro i u ρ hu ⟨q, x2, x3, rfl, hq, hs⟩
    obtain ⟨rfl, hi⟩ := range_at hu
    by_cases e : q = []
    · subst e
      simp -implicitDefEqProofs
      exact hk
    obtain ⟨q', g, rfl⟩ : ∃ q' g, q = q' ++ [g] := ⟨q.dropLast, q.getLast e, (List.dropLast_concat_getLast e).symm⟩
    rw [fos_app] at hs
    have hs2 : Fos.sz q' + g.sz + i ≤ f.sz := by simpa using hs
    have hg := hq g (by simp)
    have hq' : lvsF q' := fun x hx => hq x (List.mem_append_left _ hx)
    have hql := fos_len q'
    have hks := kids_sz g
    have q0 : ¬ ((q'.length : Int) + 1 = 0) := by omega
    have again : ∀ os : List O, os = (q' ++ g.kids).map (fun g => .sh g.T) → ∃ q : List Fo, os = (q.map fun g => .sh g.T) ∧ lvsF q ∧ Fos.sz q + (i + 1) ≤ f.sz := fun os ho => ⟨q' ++ g.kids, ho, fun x hx => by
      rcases List.mem_append.mp hx with hx | hx
      · exact hq' x hx
      · exact lv_kidsF hg x hx, by rw [fos_app]; omega⟩
    cases g with
    | kind s =>
      obtain ⟨h1, h2, h3⟩ : lfG (.kind s) := hg
      have hsl := cps_len s
      simp -implicitDefEqProofs [Fo.T, T.isTy, q0]
      refine lcI ?_
      simp -implicitDefEqProofs
      refine compMap (f := fun _ => .sh (.bl true)) rfl (by rw [List.length_map]; omega) ?_ ?_
      · simp -implicitDefEqProofs
        rw [bls_map s.cps.toList fun _ => true]
        simp -implicitDefEqProofs
        rw [show (s.cps.all fun _ => true) = true by rw [← Array.all_toList]; simp]
        simp -implicitDefEqProofs
        simpa [Fo.kids] using again _ rfl
      · intro t ht C E hE
        obtain ⟨c, hc, rfl⟩ := List.mem_map.mp ht
        simp -implicitDefEqProofs [mem36 (h3 c hc)]
        exact hE _ rfl
    | var n =>
      simp -implicitDefEqProofs [Fo.T, T.isTy, q0]
      simpa [Fo.kids] using again _ rfl
    | fn a b =>
      simp -implicitDefEqProofs [Fo.T, T.isTy, q0]
      exact ⟨by omega, by simpa [Fo.kids, Function.comp_def] using again _ rfl⟩
    | pr a b =>
      simp -implicitDefEqProofs [Fo.T, T.isTy, q0, List.lookup_cons]
      exact ⟨by omega, by simpa [Fo.kids, Function.comp_def] using again _ rfl⟩
    | sel a =>
      simp -implicitDefEqProofs [Fo.T, T.isTy, q0, List.lookup_cons]
      exact ⟨by omega, by simpa [Fo.kids, Function.comp_def] using again _ rfl⟩
  · rintro ρ ⟨q, x2, x3, rfl, hq, hs⟩
    rw [range_len] at hs
    exfalso
    omega
def strV (n : Nat) : List Nat := (Str.ofString (toString ((n : Nat) : Int))).cps.toList
inductive Itm where
  | s (z : Str) | f (g : Fo)
def Itm.T : Itm → T
  | .s z => .str z
  | .f g => g.T
def Itm.txt : Itm → List Nat
  | .s z => z.cps.toList
  | .f g => g.txt strV
def Itm.w : Itm → Nat
  | .s _ => 1
  | .f g => 6 * g.sz
def itsW (l : List Itm) : Nat := (l.map Itm.w).sum
def itsT (l : List Itm) : List Nat := l.flatMap Itm.txt
def g_show_form : GT := fun ts K _ => ∃ f : Fo, ts = [f.T] ∧ f.sz ≤ 10000 ∧ f.lv lfG ∧ K (.sh (.str ⟨(f.txt strV).toArray⟩))
theorem join0 (ys : List Str) : (Txt.join "" ys).cps.toList = ys.flatMap fun z => z.cps.toList := by
  have jl : ∀ l : List (List Nat), joinL [] l = l.flatten := fun l => by
    induction l with
    | nil => rfl
    | cons a l ih =>
      cases l with
      | nil => simp [joinL]
      | cons b r =>
        show a ++ ([] ++ joinL [] (b :: r)) = _
        rw [ih]
        simp
  rw [join_eq]
  show tl (Str.join "" ys) = _
  rw [tl_join]
  show joinL [] _ = _
  rw [jl, List.flatMap_def]
theorem strV_len {n : Nat} (h : n ≤ 9999) : (⟨#[63]⟩ ++ Str.ofString (toString ((n : Nat) : Int)) : Str).length ≤ 30 := by
  have := PySem.W.KT.len_num (n := ((n : Nat) : Int)) (by omega) (by omega)
  rw [app_len]
  have h1 : (⟨#[63]⟩ : Str).length = 1 := rfl
  omega
theorem it_s (z : Str) : (Itm.s z).T = .str z := rfl
theorem it_f (g : Fo) : (Itm.f g).T = g.T := rfl
def ShF (f : Fo) (ps : List Str) (q : List Itm) : Prop := (ps.flatMap fun z => z.cps.toList) ++ itsT q = f.txt strV ∧ (∀ z ∈ ps, z.length ≤ 30) ∧ ps.length + itsW q ≤ 6 * f.sz ∧ (∀ g, Itm.f g ∈ q → g.lv lfG) ∧ (∀ z, Itm.s z ∈ q → z.length ≤ 30)
/-- the first item gives way to others of the same text -/
theorem sh_step {f : Fo} {ps ps' : List Str} {i : Itm} {l q : List Itm} (h : ShF f ps (i :: q)) (ht : i.txt = (ps'.flatMap fun z => z.cps.toList) ++ itsT l) (hw : ps'.length + itsW l < i.w + 1) (hp : ∀ z ∈ ps', z.length ≤ 30) (h1 : ∀ g, Itm.f g ∈ l → g.lv lfG) (h2 : ∀ z, Itm.s z ∈ l → z.length ≤ 30) (h3 : ps' = [] ∨ l = []) : ShF f (ps ++ ps') (l ++ q) ∧ itsW (l ++ q) + ps'.length ≤ itsW (i :: q) := by
  obtain ⟨a1, a2, a3, a4, a5⟩ := h
  have e1 : itsT (i :: q) = i.txt ++ itsT q := rfl
  have e2 : itsW (i :: q) = i.w + itsW q := by simp [itsW]
  have e3 : itsW (l ++ q) = itsW l + itsW q := by simp [itsW]
  have e4 : itsT (l ++ q) = itsT l ++ itsT q := by simp [itsT]
  refine ⟨⟨?_, fun z hz => ?_, by rw [List.length_append]; omega, fun g hg => ?_, fun z hz => ?_⟩, by omega⟩
  · rw [← a1, e1, e4, ht, List.flatMap_append]
    rcases h3 with rfl | rfl
    · simp
    · simp [itsT]
  · rcases List.mem_append.mp hz with hz | hz
    · exact a2 z hz
    · exact hp z hz
  · rcases List.mem_append.mp hg with hg | hg
    · exact h1 g hg
    · exact a4 g (List.mem_cons_of_mem _ hg)
  · rcases List.mem_append.mp hz with hz | hz
    · exact h2 z hz
    · exact a5 z (List.mem_cons_of_mem _ hz)
theorem pl_show_form (ts : List T) (K0 : O → Prop) (Z0 : ZX) (h : g_show_form ts K0 Z0) : x_show_form (endP K0 Z0) (TL.slots 4 ts) := by
  obtain ⟨f, rfl, hsz, hlv, hk⟩ := h
  have hz : sizeLine = 16777216 := rfl
  have b1 : (Str.ofString "]").cps.toList = [93] := by decide +kernel
  have b2 : (Str.ofString "[").cps.toList = [91] := by decide +kernel
  have b3 : (Str.ofString "(").cps.toList = [40] := by decide +kernel
  have b4 : (Str.ofString ")").cps.toList = [41] := by decide +kernel
  have b5 : (Str.ofString " -> ").cps.toList = wFn := by decide +kernel
  have b6 : (Str.ofString " * ").cps.toList = wPr := by decide +kernel
  unfold x_show_form
  simp -implicitDefEqProofs
  refine whI (fun m ρ => ∃ (ps : List Str) (q : List Itm) (x3 : Option O), ρ = [some (.sh f.T), some (.lst (ps.map fun z => .sh (.str z))), some (.lst (q.reverse.map fun i => .sh i.T)), x3] ∧ ShF f ps q ∧ m = itsW q) ⟨_, [], [.f f], none, by simp [Itm.T], ⟨by simp [itsT, Itm.txt], by simp, by simp [itsW, Itm.w], by simpa using hlv, by simp⟩, rfl⟩ ?_
  rintro m ρ ⟨ps, q, x3, rfl, hI, rfl⟩
  have hql : q.length ≤ itsW q := by
    have : ∀ l : List Itm, l.length ≤ itsW l := fun l => by
      induction l with
      | nil => simp [itsW]
      | cons i l ih =>
        have : 1 ≤ i.w := by
          cases i with
          | s z => exact Nat.le_refl _
          | f g => have := fo_pos g; show 1 ≤ 6 * g.sz; omega
        have e : itsW (i :: l) = i.w + itsW l := by simp [itsW]
        simp
        omega
    exact this q
  have hbd := hI.2.2.1
  cases q with
  | nil =>
    simp -implicitDefEqProofs
    obtain ⟨a1, a2, a3, _, _⟩ := hI
    have hsum : (ps.map (·.length)).sum ≤ 30 * ps.length := by
      have : ∀ l : List Str, (∀ z ∈ l, z.length ≤ 30) → (l.map (·.length)).sum ≤ 30 * l.length := fun l => by
        induction l with
        | nil => intro _; simp
        | cons a l ih =>
          intro h
          have h1 := ih fun z hz => h z (List.mem_cons_of_mem _ hz)
          have h2 := h a (by simp)
          simp only [List.map_cons, List.sum_cons, List.length_cons]
          omega
      exact this ps a2
    have hl0 : (Str.ofString "").length = 0 := by decide +kernel
    refine ⟨ps, .inl rfl, by rw [hl0]; omega, ?_⟩
    have e : Txt.join (Str.ofString "") ps = ⟨(f.txt strV).toArray⟩ := by
      apply str_ext
      rw [join0]
      show _ = f.txt strV
      rw [← a1]
      simp [itsT]
    rw [e]
    exact hk
  | cons i q =>
    have hqc : q.length + 1 ≤ itsW (i :: q) := hql
    have again : ∀ (ps' : List Str) (l : List Itm) (os1 os2 : List O), ShF f (ps ++ ps') (l ++ q) ∧ itsW (l ++ q) + ps'.length ≤ itsW (i :: q) → (0 < ps'.length ∨ itsW (l ++ q) < itsW (i :: q)) → os1 = (ps ++ ps').map (fun z => .sh (.str z)) → os2 = (l ++ q).reverse.map (fun i => .sh i.T) →
        ∃ m', m' < itsW (i :: q) ∧ ∃ (ps : List Str) (q : List Itm), (os1 = (ps.map fun z => .sh (.str z)) ∧ os2 = (q.map fun i => O.sh i.T).reverse) ∧ ShF f ps q ∧ m' = itsW q := fun ps' l os1 os2 h1 h2 h3 h4 => by
      refine ⟨_, ?_, ps ++ ps', l ++ q, ⟨h3, by rw [h4, List.map_reverse]⟩, h1.1, rfl⟩
      have := h1.2
      rcases h2 with h2 | h2 <;> omega
    cases i with
    | s z =>
      have hz30 := hI.2.2.2.2 z (by simp)
      have st := sh_step (ps' := [z]) (l := []) hI (by simp [itsT, Itm.txt]) (by simp [itsW, Itm.w]) (by simpa using hz30) (by simp) (by simp) (.inr rfl)
      simp -implicitDefEqProofs [it_s, T.isTy]
      refine ⟨by omega, ?_⟩
      simpa using again [z] [] _ _ st (.inl (by simp)) rfl rfl
    | f g =>
      have hg := hI.2.2.2.1 g (by simp)
      cases g with
      | kind z =>
        obtain ⟨g1, g2, g3⟩ : lfG (.kind z) := hg
        have st := sh_step (ps' := [z]) (l := []) hI (by simp [itsT, Itm.txt, Fo.txt]) (by simp [itsW, Itm.w, Fo.sz]) (by simp; omega) (by simp) (by simp) (.inr rfl)
        simp -implicitDefEqProofs [it_f, Fo.T, T.isTy]
        refine ⟨by omega, ?_⟩
        simpa using again [z] [] _ _ st (.inl (by simp)) rfl rfl
      | var n =>
        have hn : n ≤ 9999 := hg
        have hv := strV_len hn
        have st := sh_step (ps' := [⟨#[63]⟩ ++ Str.ofString (toString ((n : Nat) : Int))]) (l := []) hI (by simp [itsT, Itm.txt, Fo.txt, strV, cps_app]) (by simp [itsW, Itm.w, Fo.sz]) (by simpa using hv) (by simp) (by simp) (.inr rfl)
        have hl1 : (⟨#[63]⟩ : Str).length = 1 := rfl
        have hlg : n.log2 < 1920 := by
          by_cases z : n = 0
          · subst z; decide
          · exact Nat.lt_of_lt_of_le ((Nat.log2_lt z).2 (show n < 2 ^ 14 by omega)) (by decide)
        simp -implicitDefEqProofs [it_f, Fo.T, T.isTy]
        refine ⟨by omega, by omega, ?_, by omega, ?_⟩
        · have : (⟨#[63]⟩ ++ Str.ofString (toString ((n : Nat) : Int)) : Str).length ≤ 16777216 := by omega
          simpa using this
        · simpa using again [⟨#[63]⟩ ++ Str.ofString (toString ((n : Nat) : Int))] [] _ _ st (.inl (by simp)) rfl rfl
      | fn a b =>
        have st := sh_step (ps' := []) (l := [.s "(", .f a, .s " -> ", .f b, .s ")"]) hI (by simp [itsT, Itm.txt, Fo.txt, b3, b4, b5]) (by simp [itsW, Itm.w, Fo.sz]; omega) (by simp) (by simpa using (show a.lv lfG ∧ b.lv lfG from hg)) (by simp; decide +kernel) (.inl rfl)
        simp -implicitDefEqProofs [it_f, Fo.T, T.isTy, kvs_SIGNS, List.lookup_cons]
        refine ⟨by omega, ?_⟩
        simpa [it_s, it_f] using again [] [.s "(", .f a, .s " -> ", .f b, .s ")"] _ _ st (.inr (by simp [itsW, Itm.w, Fo.sz]; omega)) rfl rfl
      | pr a b =>
        have st := sh_step (ps' := []) (l := [.s "(", .f a, .s " * ", .f b, .s ")"]) hI (by simp [itsT, Itm.txt, Fo.txt, b3, b4, b6]) (by simp [itsW, Itm.w, Fo.sz]; omega) (by simp) (by simpa using (show a.lv lfG ∧ b.lv lfG from hg)) (by simp; decide +kernel) (.inl rfl)
        simp -implicitDefEqProofs [it_f, Fo.T, T.isTy, kvs_SIGNS, List.lookup_cons]
        refine ⟨by omega, ?_⟩
        simpa [it_s, it_f] using again [] [.s "(", .f a, .s " * ", .f b, .s ")"] _ _ st (.inr (by simp [itsW, Itm.w, Fo.sz]; omega)) rfl rfl
      | sel a =>
        have st := sh_step (ps' := []) (l := [.s "[", .f a, .s "]"]) hI (by simp [itsT, Itm.txt, Fo.txt, b1, b2]) (by simp [itsW, Itm.w, Fo.sz]; omega) (by simp) (by simpa using (show a.lv lfG from hg)) (by simp; decide +kernel) (.inl rfl)
        simp -implicitDefEqProofs [it_f, Fo.T, T.isTy]
        refine ⟨by omega, ?_⟩
        simpa [it_s, it_f] using again [] [.s "[", .f a, .s "]"] _ _ st (.inr (by simp [itsW, Itm.w, Fo.sz]; omega)) rfl rfl
end Rd
end TL
set_option maxHeartbeats 4000000
namespace TL
open PySem PySem.Spec PyProof.Rows L2
namespace Rd
def txS (f : Fo) : Str := ⟨(f.txt strV).toArray⟩
theorem txS_cps (f : Fo) : (txS f).cps.toList = f.txt strV := rfl
def g_show_row : GT := fun ts K _ => ∃ f g : Fo, ts = [.tup [f.T, g.T]] ∧ f.sz ≤ 10000 ∧ f.lv lfG ∧ g.sz ≤ 10000 ∧ g.lv lfG ∧ (f.txt strV).length ≤ 1000000 ∧ (g.txt strV).length ≤ 1000000 ∧ K (.sh (.str ⟨(f.txt strV ++ wLe ++ g.txt strV).toArray⟩))
theorem pl_show_row (ts : List T) (K0 : O → Prop) (Z0 : ZX) (h : g_show_row ts K0 Z0) : x_show_row g_show_form.pf (endP K0 Z0) (TL.slots 3 ts) := by
  obtain ⟨f, g, rfl, hf, hfl, hg, hgl, l1, l2, hk⟩ := h
  have hz : sizeLine = 16777216 := rfl
  have ew : (Str.ofString " <= ").cps.toList = wLe := by decide +kernel
  have el : (Str.ofString " <= ").length = 4 := by decide +kernel
  have e1 : (⟨(f.txt strV).toArray⟩ : Str).length ≤ 1000000 := by rw [cps_len]; exact l1
  have e2 : (⟨(g.txt strV).toArray⟩ : Str).length ≤ 1000000 := by rw [cps_len]; exact l2
  unfold x_show_row
  simp -implicitDefEqProofs
  refine ⟨f, rfl, hf, hfl, ?_⟩
  simp -implicitDefEqProofs
  refine ⟨by omega, by rw [app_len, el]; omega, g, rfl, hg, hgl, ?_⟩
  simp -implicitDefEqProofs
  refine ⟨by omega, by rw [app_len, app_len, el]; omega, ?_⟩
  have e : (⟨(f.txt strV).toArray⟩ ++ Str.ofString " <= " ++ ⟨(g.txt strV).toArray⟩ : Str) = ⟨(f.txt strV ++ wLe ++ g.txt strV).toArray⟩ := by
    apply str_ext
    rw [cps_app, cps_app, ew]
  rw [e]
  exact hk
end Rd
end TL
set_option maxHeartbeats 4000000
namespace TL
open PySem PySem.Spec PyProof.Rows L2
namespace Rd
theorem tx_len : ∀ f : Fo, f.lv lfG → (f.txt strV).length ≤ 31 * f.sz
  | .kind s, h => by
    have h2 : lfG (.kind s) := h
    have := h2.2.1
    rw [cps_len] at this
    show s.cps.toList.length ≤ 31 * 1
    omega
  | .var n, h => by
    have h2 : n ≤ 9999 := h
    have := strV_len h2
    rw [cps_len, cps_app] at this
    show (63 :: strV n).length ≤ 31 * 1
    simp [strV] at this ⊢
    omega
  | .fn a b, h => by
    have h1 := tx_len a h.1
    have h2 := tx_len b h.2
    simp [Fo.txt, wFn, Fo.sz]
    omega
  | .pr a b, h => by
    have h1 := tx_len a h.1
    have h2 := tx_len b h.2
    simp [Fo.txt, wPr, Fo.sz]
    omega
  | .sel a, h => by
    have h1 := tx_len a h
    simp [Fo.txt, Fo.sz]
    omega
theorem gk_ok (f : Fo) (h : f.lv lfG) : ∀ k, lvsF (Gk f k) ∧ Fos.sz (Gk f k) ≤ f.sz
  | 0 => ⟨fun g hg => by rw [List.mem_singleton.mp hg]; exact h, by simp [Gk]⟩
  | k + 1 => by
    obtain ⟨h1, h2⟩ := gk_ok f h k
    show lvsF (match Gk f k with | [] => [] | g :: r => g.kids ++ r) ∧ Fos.sz (match Gk f k with | [] => [] | g :: r => g.kids ++ r) ≤ _
    cases q : Gk f k with
    | nil => exact ⟨fun g hg => by simp at hg, by simp⟩
    | cons g r =>
      rw [q] at h1 h2
      refine ⟨fun x hx => ?_, ?_⟩
      · rcases List.mem_append.mp hx with hx | hx
        · exact lv_kidsF (h1 g (by simp)) x hx
        · exact h1 x (List.mem_cons_of_mem _ hx)
      · show Fos.sz (g.kids ++ r) ≤ _
        rw [fos_app]
        have := kids_sz g
        simp at h2
        omega
def g__law_form_text : GT := fun ts K _ => ∃ f : Fo, ts = [f.T] ∧ f.sz ≤ 10000 ∧ f.lv lfG ∧ K (.sh (.str (txS f)))
theorem pl__law_form_text (ts : List T) (K0 : O → Prop) (Z0 : ZX) (h : g__law_form_text ts K0 Z0) : x__law_form_text g__law_preorder.pf (endP K0 Z0) (TL.slots 8 ts) := by
  obtain ⟨f, rfl, hsz, hlv, hk⟩ := h
  have hz : sizeLine = 16777216 := rfl
  have hpl := pre_len f
  unfold x__law_form_text
  simp -implicitDefEqProofs
  refine ⟨f, rfl, by omega, ?_⟩
  simp -implicitDefEqProofs
  refine foI ?_
  simp -implicitDefEqProofs
  refine ⟨by omega, ?_⟩
  refine forI (fun i ρ => ∃ (x1 : O) (x3 x4 x5 x6 x7 : Option O), ρ = [some (.sh f.T), some x1, some (.lst ((Gk f (f.sz - i)).reverse.map fun g => .sh (.str (txS g)))), x3, x4, x5, x6, x7] ∧ RowO x1 (f.pre.map Fo.T)) ⟨.sh (.lst (f.pre.map Fo.T)), none, none, none, none, none, by rw [Nat.sub_zero, Gk_end]; rfl, .inr rfl⟩ ?_ ?_
  · rintro i u ρ hi ⟨x1, x3, x4, x5, x6, x7, rfl, h1⟩
    obtain ⟨rfl, hilt⟩ := rangeC_at hi
    obtain ⟨k, hk1⟩ : ∃ k, f.sz = k + 1 + i := ⟨f.sz - 1 - i, by omega⟩
    have ek : ((f.pre.length : Nat) : Int) - 1 - (i : Int) = (k : Nat) := by omega
    obtain ⟨g, e⟩ : ∃ g, f.pre[k]? = some g := ⟨f.pre[k]'(by omega), List.getElem?_eq_getElem (by omega)⟩
    obtain ⟨r, g1, g2⟩ := Gk_at e
    rw [ek, show f.sz - i = k + 1 by omega, show f.sz - (i + 1) = k by omega, g1, g2]
    obtain ⟨o1, o2⟩ := gk_ok f hlv (k + 1)
    rw [g2, fos_app] at o2
    have o3 := fos_len r
    simp -implicitDefEqProofs
    rw [nameE_row h1 rfl]
    have bO : Str.ofString "[" = ⟨#[91]⟩ := by decide +kernel
    have bC : Str.ofString "]" = ⟨#[93]⟩ := by decide +kernel
    have pO : Str.ofString "(" = ⟨#[40]⟩ := by decide +kernel
    have pC : Str.ofString ")" = ⟨#[41]⟩ := by decide +kernel
    have fE : (Str.ofString " -> ").cps.toList = wFn := by decide +kernel
    have pE : (Str.ofString " * ").cps.toList = wPr := by decide +kernel
    have lF : (Str.ofString " -> ").length = 4 := by decide +kernel
    have lP : (Str.ofString " * ").length = 3 := by decide +kernel
    have one : ∀ c : Nat, (⟨#[c]⟩ : Str).length = 1 := fun c => rfl
    have tl : ∀ x ∈ g.kids, (txS x).length ≤ 400000 := fun x hx => by
      have h5 := o1 x (by rw [g2]; exact List.mem_append_left _ hx)
      have h6 := tx_len x h5
      have h7 : x.sz ≤ Fos.sz g.kids := by
        have : ∀ l : List Fo, x ∈ l → x.sz ≤ Fos.sz l := fun l => by
          induction l with
          | nil => intro z; cases z
          | cons a l ih =>
            intro z
            rcases List.mem_cons.mp z with rfl | z
            · simp
            · have := ih z
              simp
              omega
        exact this _ hx
      rw [cps_len]
      show (x.txt strV).length ≤ 400000
      omega
    have htx : ∀ z : Str, z.cps.toList = g.txt strV → z = txS g := fun z hz => str_ext hz
    simp -implicitDefEqProofs [e]
    cases g with
    | kind z =>
      simp -implicitDefEqProofs [Fo.T, Fo.kids]
      exact ⟨by omega, _, ⟨rfl, htx z rfl⟩, .inr rfl⟩
    | var n =>
      have hn : n ≤ 9999 := (gk_ok f hlv k).1 (.var n) (by rw [g1]; simp)
      have hv := strV_len hn
      have hlg : n.log2 < 1920 := by
        by_cases z : n = 0
        · subst z; decide
        · exact Nat.lt_of_lt_of_le ((Nat.log2_lt z).2 (show n < 2 ^ 14 by omega)) (by decide)
      simp -implicitDefEqProofs [Fo.T, Fo.kids]
      refine ⟨hlg, ?_, by omega, _, ⟨rfl, htx _ (by rw [cps_app]; rfl)⟩, .inr rfl⟩
      rw [app_len] at hv
      have h9 : (⟨#[63]⟩ : Str).length + (Str.ofString (toString ((n : Nat) : Int))).length ≤ 16777216 := by omega
      exact h9
    | sel a =>
      have ta := tl a (by simp [Fo.kids])
      simp -implicitDefEqProofs [Fo.T, Fo.kids, bO, bC]
      exact ⟨by rw [one]; omega, by rw [app_len, one, one]; omega, by omega, _, ⟨rfl, htx _ (by rw [cps_app, cps_app]; simp [txS_cps, Fo.txt])⟩, .inr rfl⟩
    | fn a b =>
      have ta := tl a (by simp [Fo.kids])
      have tb := tl b (by simp [Fo.kids])
      simp -implicitDefEqProofs [Fo.T, Fo.kids, pO, pC]
      exact ⟨by rw [one]; omega, by rw [app_len, one, lF]; omega, by rw [app_len, app_len, one, lF]; omega, by rw [app_len, app_len, app_len, one, one, lF]; omega, by omega, _, ⟨rfl, htx _ (by rw [cps_app, cps_app, cps_app, cps_app, fE]; simp [txS_cps, Fo.txt])⟩, .inr rfl⟩
    | pr a b =>
      have ta := tl a (by simp [Fo.kids])
      have tb := tl b (by simp [Fo.kids])
      simp -implicitDefEqProofs [Fo.T, Fo.kids, pO, pC]
      exact ⟨by rw [one]; omega, by rw [app_len, one, lP]; omega, by rw [app_len, app_len, one, lP]; omega, by rw [app_len, app_len, app_len, one, one, lP]; omega, by omega, _, ⟨rfl, htx _ (by rw [cps_app, cps_app, cps_app, cps_app, pE]; simp [txS_cps, Fo.txt])⟩, .inr rfl⟩
  · rintro ρ ⟨x1, x3, x4, x5, x6, x7, rfl, h1⟩
    rw [rangeC_len, hpl, Nat.sub_self]
    simp -implicitDefEqProofs [Gk]
    exact hk
end Rd
end TL
set_option maxHeartbeats 4000000
namespace TL
open PySem PySem.Spec PyProof.Rows L2
namespace Rd
def outL (s : Str) : Out → List T
  | .bad k => [.str "BadText", .int (k : Nat)]
  | .deep => [.str "TooDeep", .int 24]
  | .big => [.str "TooBig", .int 100]
  | .ok _ => [.str "answer", .str s]
def readO (L : List Nat) (r : Bool) : Out := if r = true then readR L else readF L
theorem SR_out {L : List Nat} {r : Bool} {a : Int} {ms : List (Nat × Nat)} (h : SR L r (.want [] 0) [] a ms) : (∃ k : Nat, readO L r = .bad k ∧ a = k) ∨ ∃ fs : List Fo, readO L r = limO fs ∧ a = -1 ∧ (ms = fs.map fun f => (f.dep, f.sz)) ∧ fs.length ≤ 2 := by
  cases r with
  | false =>
    unfold SR SR0 at h
    rw [if_pos rfl] at h
    show (∃ k : Nat, readF L = .bad k ∧ a = k) ∨ ∃ fs : List Fo, readF L = limO fs ∧ a = -1 ∧ (ms = fs.map fun f => (f.dep, f.sz)) ∧ fs.length ≤ 2
    unfold readF
    cases e : runM numV L (.want [] 0) with
    | err k => rw [e] at h; exact .inl ⟨k, rfl, h.1⟩
    | don f z =>
      rw [e] at h
      obtain ⟨h1, h2⟩ := h
      by_cases c : z = L.length
      · rw [if_pos c] at h1
        exact .inr ⟨[f], if_pos c, h1, by simpa using h2, by simp⟩
      · rw [if_neg c] at h1
        exact .inl ⟨z, if_neg c, h1⟩
  | true =>
    unfold SR at h
    rw [if_neg (by decide)] at h
    show (∃ k : Nat, readR L = .bad k ∧ a = k) ∨ ∃ fs : List Fo, readR L = limO fs ∧ a = -1 ∧ (ms = fs.map fun f => (f.dep, f.sz)) ∧ fs.length ≤ 2
    unfold readR
    cases e : runM numV L (.want [] 0) with
    | err k => rw [e] at h; exact .inl ⟨k, rfl, h.1⟩
    | don f z =>
      rw [e] at h
      have h : if cmn L wLe z = 4 then SR0 L (.want [] (z + 4)) ([] ++ [(f.dep, f.sz)]) a ms else a = (z + cmn L wLe z : Nat) ∧ ms ≠ [] := h
      by_cases c : cmn L wLe z = 4
      · rw [if_pos c] at h
        unfold SR0 at h
        show (∃ k : Nat, (if cmn L wLe z = 4 then _ else _) = Out.bad k ∧ a = k) ∨ ∃ fs : List Fo, (if cmn L wLe z = 4 then _ else _) = limO fs ∧ a = -1 ∧ (ms = fs.map fun f => (f.dep, f.sz)) ∧ fs.length ≤ 2
        rw [if_pos c]
        cases e2 : runM numV L (.want [] (z + 4)) with
        | err k => rw [e2] at h; exact .inl ⟨k, rfl, h.1⟩
        | don g z2 =>
          rw [e2] at h
          obtain ⟨h1, h2⟩ := h
          by_cases c2 : z2 = L.length
          · rw [if_pos c2] at h1
            exact .inr ⟨[f, g], if_pos c2, h1, by simpa using h2, by simp⟩
          · rw [if_neg c2] at h1
            exact .inl ⟨z2, if_neg c2, h1⟩
      · rw [if_neg c] at h
        exact .inl ⟨_, if_neg c, h.1⟩
def msO (i : Nat) (k : Int) : T → O
  | .lst [.int l, .int n] => .sh (.bl (decide (k < if i = 0 then l else n)))
  | _ => .sh .non
def g__law_due07 : GT := fun ts K _ => ∃ (s : Str) (r : Bool), ts = [.str s, .int (if r = true then 1 else 0)] ∧ okT s ∧ K (.lst ((outL s (readO s.cps.toList r)).map .sh))
theorem pl__law_due07 (ts : List T) (K0 : O → Prop) (Z0 : ZX) (h : g__law_due07 ts K0 Z0) : x__law_due07 g__law_scan.pf (endP K0 Z0) (TL.slots 5 ts) := by
  obtain ⟨s, r, rfl, ok, hk⟩ := h
  unfold x__law_due07
  simp -implicitDefEqProofs
  refine ⟨s, r, rfl, ok, fun a ms hS => ?_⟩
  rcases SR_out hS with ⟨k, h1, rfl⟩ | ⟨fs, h1, rfl, rfl, hf2⟩
  · rw [h1] at hk
    simp -implicitDefEqProofs
    simpa [outL] using hk
  · rw [h1] at hk
    have hms : fs.map (mT ∘ fun f => (f.dep, f.sz)) = fs.map fun f => T.lst [.int (f.dep : Nat), .int (f.sz : Nat)] := List.map_congr_left fun f _ => rfl
    simp -implicitDefEqProofs [hms]
    refine lcI ?_
    simp -implicitDefEqProofs
    refine compMap (f := msO 0 24) rfl (by rw [List.length_map]; have : sizeLine = 16777216 := rfl; omega) ?_ ?_
    · simp -implicitDefEqProofs [msO]
      have e1 : T.bls (fs.map fun a => T.bl (decide ((24 : Int) < (a.dep : Int)))) = some (fs.map fun f => decide (24 < f.dep)) := by
        rw [bls_map fs fun a => decide ((24 : Int) < (a.dep : Int))]
        congr 1
        exact List.map_congr_left fun f _ => decide_eq_decide.mpr (by omega)
      have e2 : T.bls (fs.map fun a => T.bl (decide ((100 : Int) < (a.sz : Int)))) = some (fs.map fun f => decide (100 < f.sz)) := by
        rw [bls_map fs fun a => decide ((100 : Int) < (a.sz : Int))]
        congr 1
        exact List.map_congr_left fun f _ => decide_eq_decide.mpr (by omega)
      have a1 : (fs.map fun f => decide (24 < f.dep)).any id = fs.any fun f => decide (24 < f.dep) := by rw [List.any_map]; rfl
      have a2 : (fs.map fun f => decide (100 < f.sz)).any id = fs.any fun f => decide (100 < f.sz) := by rw [List.any_map]; rfl
      rw [e1]
      unfold limO at hk
      cases d1 : fs.any fun f => decide (24 < f.dep) with
      | true =>
        rw [d1] at hk
        simp -implicitDefEqProofs [d1]
        simpa [outL] using hk
      | false =>
        rw [d1] at hk
        simp -implicitDefEqProofs [d1, hms]
        refine lcI ?_
        simp -implicitDefEqProofs
        refine compMap (f := msO 1 100) rfl (by rw [List.length_map]; have : sizeLine = 16777216 := rfl; omega) ?_ ?_
        · simp -implicitDefEqProofs [msO]
          rw [e2]
          cases d2 : fs.any fun f => decide (100 < f.sz) with
          | true =>
            rw [d2] at hk
            simp -implicitDefEqProofs [d2]
            simpa [outL] using hk
          | false =>
            rw [d2] at hk
            simp -implicitDefEqProofs [d2]
            simpa [outL] using hk
        · intro t ht C E hE
          obtain ⟨f, _, rfl⟩ := List.mem_map.mp ht
          simp -implicitDefEqProofs
          exact hE _ rfl
    · intro t ht C E hE
      obtain ⟨f, _, rfl⟩ := List.mem_map.mp ht
      simp -implicitDefEqProofs
      exact hE _ rfl
end Rd
end TL
set_option maxHeartbeats 4000000
namespace TL
open PySem PySem.Spec PyProof.Rows L2
namespace Rd
theorem chr_back : ∀ d : Nat, d < 10 → (Char.ofNat (48 + d)).toNat = 48 + d := by decide
theorem strV_num {l : List Nat} (h : ∀ c ∈ l, 48 ≤ c ∧ c ≤ 57) (h1 : l ≠ []) (h2 : l.length = 1 ∨ l.head? ≠ some 48) : strV (numV l) = l := by
  have e : Nat.toDigits 10 (numV l) = l.map Char.ofNat := PySem.NumText.toDigits_digitsVal (l.length - 1) l (by
    cases l with
    | nil => exact absurd rfl h1
    | cons a r => simp) h (by
    cases l with
    | nil => exact absurd rfl h1
    | cons a r =>
      rcases h2 with h2 | h2
      · exact .inl (by omega)
      · refine .inr ⟨a, r, rfl, ?_⟩
        have := h a (by simp)
        have : a ≠ 48 := fun z => h2 (by rw [z]; rfl)
        omega)
  unfold strV
  rw [PySem.W.KIN.signs_num, e, List.map_map]
  have : l.map (Char.toNat ∘ Char.ofNat) = l.map id := List.map_congr_left fun c hc => by
    have h3 := h c hc
    have h4 := chr_back (c - 48) (by omega)
    rw [show 48 + (c - 48) = c by omega] at h4
    exact h4
  rw [this, List.map_id]
theorem leaf_var {L : List Nat} {a : Nat} (q : L[a]? = some 63) (h : leafBad L a = false) : leafEnd L a = numEnd L (a + 1) ∧ (∀ c ∈ digL L (a + 1), 48 ≤ c ∧ c ≤ 57) ∧ digL L (a + 1) ≠ [] ∧ (digL L (a + 1)).length ≤ 4 ∧ ((digL L (a + 1)).length = 1 ∨ (digL L (a + 1)).head? ≠ some 48) := by
  have e : leafEnd L a = numEnd L (a + 1) := by unfold leafEnd; rw [if_pos q]
  unfold leafBad at h
  simp [q] at h
  have hne : cntR isG 4 (L.drop (a + 1)) ≠ 0 := by
    intro z
    by_cases c : L[a + 1]? = some 48
    · exact cntR_one (n := 3) c (by decide) z
    · have : numEnd L (a + 1) = a + 1 := by unfold numEnd; rw [if_neg c, z]
      omega
  obtain ⟨h1, h2, h3⟩ := digL_ok hne
  refine ⟨e, h1, h2, h3, ?_⟩
  by_cases c : L[a + 1]? = some 48
  · left
    have z := (List.getElem?_eq_some_iff.mp c).1
    unfold digL numEnd
    rw [if_pos c, List.length_take, List.length_drop]
    omega
  · right
    intro z
    unfold digL at z
    rw [List.head?_take] at z
    split at z
    · cases z
    · rw [List.head?_drop] at z
      exact c z
theorem leaf_txt {L : List Nat} {a : Nat} (ha : a ≤ L.length) (h : leafBad L a = false) : (leafF numV L a).txt strV = (L.drop a).take (leafEnd L a - a) := by
  unfold leafF
  by_cases q : L[a]? = some 63
  · obtain ⟨e, h1, h2, h3, h4⟩ := leaf_var q h
    rw [if_pos q, e]
    have hd := strV_num h1 h2 h4
    show 63 :: strV (numV (digL L (a + 1))) = _
    rw [hd]
    obtain ⟨z1, z2⟩ := List.getElem?_eq_some_iff.mp q
    have hle : a + 1 < numEnd L (a + 1) := by
      have : 0 < (digL L (a + 1)).length := List.length_pos_iff.mpr h2
      unfold digL at this
      rw [List.length_take] at this
      omega
    rw [List.drop_eq_getElem_cons z1, z2, show numEnd L (a + 1) - a = (numEnd L (a + 1) - (a + 1)) + 1 by omega, List.take_succ_cons]
    rfl
  · rw [if_neg q]
    rfl
theorem leaf_good {L : List Nat} {a : Nat} (ha : a ≤ L.length) (h : leafBad L a = false) : lfG (leafF numV L a) := by
  unfold leafF
  by_cases q : L[a]? = some 63
  · obtain ⟨e, h1, h2, h3, h4⟩ := leaf_var q h
    rw [if_pos q, e]
    show numV (digL L (a + 1)) ≤ 9999
    have gen : ∀ (l : List Nat) (x : Nat), (∀ c ∈ l, 48 ≤ c ∧ c ≤ 57) → l.foldl (fun acc c => acc * 10 + (c - 48)) x < (x + 1) * 10 ^ l.length := by
      intro l
      induction l with
      | nil => intro x _; simp
      | cons c r ih =>
        intro x hc
        have h5 := ih (x * 10 + (c - 48)) fun d hd => hc d (List.mem_cons_of_mem _ hd)
        have h6 := hc c (by simp)
        rw [List.foldl_cons, List.length_cons, Nat.pow_succ]
        have h7 : (x * 10 + (c - 48) + 1) * 10 ^ r.length ≤ ((x + 1) * 10) * 10 ^ r.length := Nat.mul_le_mul_right _ (by omega)
        rw [Nat.mul_assoc, Nat.mul_comm 10 (10 ^ r.length)] at h7
        omega
    have h5 := gen _ 0 h1
    have h6 : 10 ^ (digL L (a + 1)).length ≤ 10 ^ 4 := Nat.pow_le_pow_right (by decide) h3
    unfold numV
    omega
  · rw [if_neg q]
    have hz : ∀ c ∈ (L.drop a).take (leafEnd L a - a), isL c = true ∨ isG c = true := by
      unfold leafEnd
      rw [if_neg q]
      split
      · simp
      · intro c hc
        rw [show a + cntR isL 8 (L.drop a) + cntR isG 2 (L.drop (a + cntR isL 8 (L.drop a))) - a = cntR isL 8 (L.drop a) + cntR isG 2 (L.drop (a + cntR isL 8 (L.drop a))) by omega, List.take_add, List.drop_drop] at hc
        rcases List.mem_append.mp hc with hc | hc
        · exact .inl (cntR_take _ _ c hc)
        · exact .inr (cntR_take _ _ c hc)
    refine ⟨?_, ?_, hz⟩
    · rw [strOk_iff]
      intro c hc
      rcases hz c hc with z | z
      · unfold isL at z; simp at z; omega
      · unfold isG at z; simp at z; omega
    · rw [cps_len]
      show ((L.drop a).take (leafEnd L a - a)).length ≤ 10
      have h1 := cntR_n isL 8 (L.drop a)
      have h2 := cntR_n isG 2 (L.drop (a + cntR isL 8 (L.drop a)))
      rw [List.length_take]
      unfold leafEnd
      rw [if_neg q]
      split <;> omega
/-- all that is told of the form read from a place -/
theorem read_one {L : List Nat} {a : Nat} (ha : a ≤ L.length) {f : Fo} {e : Nat} (h : runM numV L (.want [] a) = .don f e) : f.lv lfG ∧ f.txt strV = (L.drop a).take (e - a) ∧ a ≤ e ∧ e ≤ L.length :=
  ⟨run_lv (fun b hb q => leaf_good hb q) ha h, (run_txt (fun b hb q => leaf_txt hb q) ha h).1, (run_txt (fun b hb q => leaf_txt hb q) ha h).2, (run_sz ha h).2⟩
theorem limO_ok {fs gs : List Fo} (h : limO fs = .ok gs) : gs = fs ∧ ∀ f ∈ fs, f.dep ≤ 24 ∧ f.sz ≤ 100 := by
  unfold limO at h
  split at h
  · cases h
  · split at h
    · cases h
    · rename_i h1 h2
      cases h
      refine ⟨rfl, fun f hf => ?_⟩
      rw [Bool.not_eq_true, List.any_eq_false] at h1 h2
      have a1 := h1 f hf
      have a2 := h2 f hf
      simp at a1 a2
      exact ⟨a1, a2⟩
theorem readF_ok {L : List Nat} {fs : List Fo} (h : readF L = .ok fs) : ∃ f, fs = [f] ∧ f.sz ≤ 100 ∧ f.lv lfG ∧ f.txt strV = L := by
  unfold readF at h
  cases e : runM numV L (.want [] 0) with
  | err k => rw [e] at h; cases h
  | don f z =>
    rw [e] at h
    have h : (if z = L.length then limO [f] else .bad z) = .ok fs := h
    split at h
    · rename_i c
      obtain ⟨rfl, h2⟩ := limO_ok h
      obtain ⟨r1, r2, r3, r4⟩ := read_one (Nat.zero_le _) e
      refine ⟨f, rfl, (h2 f (by simp)).2, r1, ?_⟩
      rw [r2, c]
      simp
    · cases h
theorem readR_ok {L : List Nat} {fs : List Fo} (h : readR L = .ok fs) : ∃ f g, fs = [f, g] ∧ f.sz ≤ 100 ∧ f.lv lfG ∧ g.sz ≤ 100 ∧ g.lv lfG ∧ f.txt strV ++ wLe ++ g.txt strV = L := by
  unfold readR at h
  cases e : runM numV L (.want [] 0) with
  | err k => rw [e] at h; cases h
  | don f z =>
    rw [e] at h
    have h : (if cmn L wLe z = 4 then (match runM numV L (.want [] (z + 4)) with | .err k => .bad k | .don g e2 => if e2 = L.length then limO [f, g] else .bad e2) else Out.bad (z + cmn L wLe z)) = .ok fs := h
    split at h
    · rename_i c
      cases e2 : runM numV L (.want [] (z + 4)) with
      | err k => rw [e2] at h; cases h
      | don g z2 =>
        rw [e2] at h
        have h : (if z2 = L.length then limO [f, g] else .bad z2) = .ok fs := h
        split at h
        · rename_i c2
          obtain ⟨rfl, h2⟩ := limO_ok h
          obtain ⟨r1, r2, r3, r4⟩ := read_one (Nat.zero_le _) e
          have hin := cmn_in L wLe z r4
          obtain ⟨s1, s2, s3, s4⟩ := read_one (by omega) e2
          refine ⟨f, g, rfl, (h2 f (by simp)).2, r1, (h2 g (by simp)).2, s1, ?_⟩
          have h5 := cmn_all L wLe z c
          have h6 : wLe.length = 4 := rfl
          rw [h6] at h5
          rw [r2, s2, c2, ← h5]
          have h7 : (L.drop (z + 4)).take (L.length - (z + 4)) = L.drop (z + 4) := List.take_of_length_le (by rw [List.length_drop]; omega)
          rw [h7, Nat.sub_zero, List.drop_zero, List.append_assoc, ← List.drop_drop, List.take_append_drop, List.take_append_drop]
        · cases h
    · cases h
end Rd
end TL
set_option maxHeartbeats 4000000
namespace TL
open PySem PySem.Spec PyProof.Rows L2
namespace Rd
def told_suite07 (kit : Addr → Str → Option Bool) (kitV : Addr → Option Bool) (a d C : Addr) : XS := xSeq (xAsg (xLst (xCons (xIsX a d C (kit C "BadText") (xName 3)) (xCons (xIsX a d C (kit C "UnknownName") (xName 3)) (xCons (xIsX a d C (kit C "Twice") (xName 3)) (xCons (xIsX a d C (kit C "Circle") (xName 3)) (xNil)))))) (gN 4)) (xSeq (xAsg (x2 addT (xName 4) (xLst (xCons (xIsX a d C (kit C "BadRow") (xName 3)) (xCons (xIsX a d C (kit C "NotThere") (xName 3)) (xCons (xIsX a d C (kit C "TooDeep") (xName 3)) (xCons (xIsX a d C (kit C "TooBig") (xName 3)) (xNil))))))) (gN 4)) (xSeq (xAsg (x2 addT (xName 4) (xLst (xCons (xIsX a d C (kit C "NoMeaning") (xName 3)) (xCons (xIsX a d C (kit C "NoSolution") (xName 3)) (xCons (xIsX a d C (kit C "Rough") (xName 3)) (xNil)))))) (gN 4)) (xSeq (xAsg (x2 addT (xName 4) (xLst (xCons (xIsX a d C (kit C "InUse") (xName 3)) (xCons (xIsX a d C (kit C "TooWide") (xName 3)) (xCons (xIsX a d C (kit C "Stuck") (xName 3)) (xCons (xIsX a d C (kit C "TooLong") (xName 3)) (xNil))))))) (gN 4)) (xSeq (xAsg (xLc (xRng1 (xCons (xC (.int 15)) (xNil))) (gN 6) (xAnd (xTru (x2 ixT (xName 4) (xName 6))) (xTru (xIsX a d C (kitV C) (xName 3)))) (xName 6) [6]) (gN 5)) (xSeq (xIfS (x2T eqT (xName 5) (xLst (xCons (xC (.int 0)) (xNil)))) (xRet (xLst (xCons (xC (.str "BadText")) (xCons (xFld a d C "at" (xName 3)) (xNil))))) (xNext)) (xSeq (xIfS (x2T eqT (xName 5) (xLst (xCons (xC (.int 6)) (xNil)))) (xRet (xLst (xCons (xC (.str "TooDeep")) (xCons (xFld a d C "limit" (xName 3)) (xNil))))) (xNext)) (xSeq (xIfS (x2T eqT (xName 5) (xLst (xCons (xC (.int 7)) (xNil)))) (xRet (xLst (xCons (xC (.str "TooBig")) (xCons (xFld a d C "limit" (xName 3)) (xNil))))) (xNext)) (xRet (xLst (xCons (xC (.str "other")) (xCons (xName 5) (xNil))))))))))))
def told_end07 (g__law_is_form : PF) (g__law_form_text : PF) : XS := xSeq (xIfS (xOr (xNot (xTru (xIsi [.tuple] (xName 2)))) (xOr (x2T neT (xB ((un1 lenT)) (xCons (xName 2) (xNil))) (x2 addT (xC (.int 1)) (xName 1))) (xNot (xTru (xB ((un1 (boolsT fun bs => bs.all id))) (xCons (xLc (xSeqI (xName 2)) (gN 7) (xYes) (xCall g__law_is_form (xCons (xName 7) (xNil))) [7]) (xNil))))))) (xRet (xLst (xCons (xC (.str "other")) (xCons (xC .non) (xNil))))) (xNext)) (xRet (xLst (xCons (xC (.str "answer")) (xCons (xJoin (xC (.str " <= ")) (xLc (xSeqI (xName 2)) (gN 7) (xYes) (xCall g__law_form_text (xCons (xName 7) (xNil))) [7])) (xNil)))))
def told_all07 (g_read_form : PF) (g_read_row : PF) (g__law_is_form : PF) (g__law_form_text : PF) (cs : Addr → Prop) (tst : Addr → Option Bool) (kit : Addr → Str → Option Bool) (kitV : Addr → Option Bool) : XS := xSeq (xTry cs tst 3 (xIfS (x2T eqT (xName 1) (xC (.int 0))) (xAsg (xTup (xCons (xCall g_read_form (xCons (xName 0) (xNil))) (xNil))) (gN 2)) (xAsg (xCall g_read_row (xCons (xName 0) (xNil))) (gN 2))) (fun a d C => told_suite07 kit kitV a d C)) (told_end07 g__law_is_form g__law_form_text)
theorem told_lc07 (kitV : Addr → Option Bool) (a d C : Addr) (fs : List Str) (ts : List T) (y0 y1 y2 x5 x6 x7 : Option O) (i : Nat) (hi : i < 15) (hv : kitV C = some true) (K : O → R → Prop) (Z : ZC)
    (hK : K (.lst [.sh (.int (i : Nat))]) [y0, y1, y2, some (.sh (.exn a d C fs ts)), some (.sh (.lst (flL i))), x5, none, x7]) :
    lcE (xRng1 (xCons (xC (T.int 15)) xNil)) (gN 6) (xAnd (xTru (x2 ixT (xName 4) (xName 6))) (xTru (xIsX a d C (kitV C) (xName 3)))) (xName 6) [6]
      [y0, y1, y2, some (.sh (.exn a d C fs ts)), some (.lst ((flL i).map .sh)), x5, x6, x7] (c := ⟨K⟩) (z := ⟨Z⟩) := by
  refine lcI ?_
  simp -implicitDefEqProofs
  refine compI (fun k acc ρ => ∃ x4, ρ = [y0, y1, y2, some (.sh (.exn a d C fs ts)), some x4, x5, none, x7] ∧ RowO x4 (flL i) ∧ (0 < k → x4 = .sh (.lst (flL i))) ∧ acc = if i < k then [.sh (.int (i : Nat))] else []) ⟨_, by simp; rfl, .inl (by simp), by simp, by simp⟩ ?_ ?_
  · rintro k u acc ρ hu ⟨x4, rfl, hr, _, rfl⟩
    obtain ⟨rfl, hk⟩ := range_at hu
    have e : (flL i)[k]? = some (.bl (decide (k = i))) := by
      unfold flL
      rw [List.getElem?_map, List.getElem?_range hk]
      rfl
    simp -implicitDefEqProofs
    rw [nameE_row hr rfl]
    simp -implicitDefEqProofs [e]
    by_cases q : k = i
    · subst q
      simp -implicitDefEqProofs [hv]
      exact .inr rfl
    · simp -implicitDefEqProofs [q]
      refine ⟨.inr rfl, ?_⟩
      by_cases q2 : i < k
      · rw [if_pos q2, if_pos (by omega)]
      · rw [if_neg q2, if_neg (by omega)]
  · rintro acc ρ ⟨x4, rfl, hr, h2, rfl⟩
    simp only [range_len] at h2 ⊢
    have h3 := h2 (by decide)
    subst h3
    have h4 : i < (15 : Int).toNat := hi
    simpa [h4, hi] using hK
def toldZ (i : Nat) (v : T) : List T := [.str (if i = 0 then "BadText" else if i = 6 then "TooDeep" else "TooBig"), v]
theorem pl_suite07 (kit : Addr → Str → Option Bool) (kitV : Addr → Option Bool) (a d C : Addr) (D : ED) (y0 y1 y2 x4 x5 x6 x7 : Option O) (i : Nat) (v : T) (hi : i = 0 ∨ i = 6 ∨ i = 7) (hk : KitI kit kitV C i)
    (hD : ∀ ρ, D.rt (.lst ((toldZ i v).map .sh)) ρ) : told_suite07 kit kitV a d C D [y0, y1, y2, some (.sh (.exn a d C [if i = 0 then "at" else "limit"] [v])), x4, x5, x6, x7] := by
  obtain ⟨hf, hv⟩ := hk
  have h0 := hf 0 _ rfl
  have h1 := hf 1 _ rfl
  have h2 := hf 2 _ rfl
  have h3 := hf 3 _ rfl
  have h4 := hf 4 _ rfl
  have h5 := hf 5 _ rfl
  have h6 := hf 6 _ rfl
  have h7 := hf 7 _ rfl
  have h8 := hf 8 _ rfl
  have h9 := hf 9 _ rfl
  have h10 := hf 10 _ rfl
  have h11 := hf 11 _ rfl
  have h12 := hf 12 _ rfl
  have h13 := hf 13 _ rfl
  have h14 := hf 14 _ rfl
  clear hf
  unfold told_suite07
  rcases hi with rfl | rfl | rfl
  · simp -implicitDefEqProofs [h0, h1, h2, h3, h4, h5, h6, h7, h8, h9, h10, h11, h12, h13, h14]
    refine told_lc07 kitV a d C _ _ y0 y1 y2 x5 x6 x7 0 (by decide) hv _ _ ?_
    simp -implicitDefEqProofs [lookT]
    simpa [toldZ] using hD _
  · simp -implicitDefEqProofs [h0, h1, h2, h3, h4, h5, h6, h7, h8, h9, h10, h11, h12, h13, h14]
    refine told_lc07 kitV a d C _ _ y0 y1 y2 x5 x6 x7 6 (by decide) hv _ _ ?_
    simp -implicitDefEqProofs [lookT]
    simpa [toldZ] using hD _
  · simp -implicitDefEqProofs [h0, h1, h2, h3, h4, h5, h6, h7, h8, h9, h10, h11, h12, h13, h14]
    refine told_lc07 kitV a d C _ _ y0 y1 y2 x5 x6 x7 7 (by decide) hv _ _ ?_
    simp -implicitDefEqProofs [lookT]
    simpa [toldZ] using hD _
theorem compMapF {α : Type} {fs : List α} {tf : α → T} {f : α → O} {g : XG} {p : XT} {x : XE} {own : List Nat} {ρ ρ1 : R} {K : O → R → Prop} (hw : wipeR ρ own = ρ1) (hl : fs.length ≤ sizeLine) (hK : K (.lst (fs.map f)) ρ1)
    (h : ∀ t ∈ fs, ∀ C : R → Prop, ∀ E : O → R → Prop, (∀ ρ4, wipeR ρ4 own = ρ1 → E (f t) ρ4) → g (.sh (tf t)) ρ1 fun ρ2 => p ρ2 (fun b ρ3 => brE b (c := ⟨(x ρ3 E noZ, C ρ3)⟩)) noZ) : lcGo g p x own (fs.map tf) ρ (c := ⟨K⟩) := by
  refine compI (fun i acc r => r = ρ1 ∧ acc = (fs.take i).map f) ⟨hw, by simp⟩ (fun i t acc r ht hi => ?_) fun acc r hi => ?_
  · obtain ⟨rfl, rfl⟩ := hi
    rw [List.getElem?_map] at ht
    obtain ⟨u, hu, rfl⟩ := Option.map_eq_some_iff.mp ht
    have hlt := (List.getElem?_eq_some_iff.mp hu).1
    refine h u (List.mem_of_getElem? hu) (fun r => onR (wipeR r own) (c := ⟨_⟩)) _ fun ρ4 h4 => ⟨by rw [List.length_map, List.length_take]; omega, h4, ?_⟩
    rw [List.take_add_one, hu, List.map_append]
    rfl
  · obtain ⟨rfl, rfl⟩ := hi
    rw [List.length_map, List.take_length]
    exact hK
theorem pl_end07 (s : Str) (r : Bool) (fs : List Fo) (x3 x4 x5 x6 x7 : Option O) (K0 : O → Prop) (Z0 : ZX) (hn : fs.length = (if r = true then 2 else 1)) (hf : ∀ f ∈ fs, f.sz ≤ 100 ∧ f.lv lfG) (hj : Txt.join " <= " (fs.map txS) = s) (hs : s.length ≤ 1000000) (hk : K0 (.lst [.sh (.str "answer"), .sh (.str s)])) :
    told_end07 g__law_is_form.pf g__law_form_text.pf (endP K0 Z0) [some (.sh (.str s)), some (.sh (.int (if r = true then 1 else 0))), some (.sh (.tup (fs.map Fo.T))), x3, x4, x5, x6, x7] := by
  unfold told_end07
  have hl2 : fs.length ≤ 2 := by rw [hn]; split <;> omega
  have hz : sizeLine = 16777216 := rfl
  have el : (Str.ofString " <= ").length = 4 := by decide +kernel
  have hlen : (fs.length : Int) = 1 + (if r = true then 1 else 0) := by rw [hn]; split <;> rfl
  simp -implicitDefEqProofs [T.isTy, hlen]
  refine lcI ?_
  simp -implicitDefEqProofs
  refine compMapF (f := fun _ => .sh (.bl true)) rfl (by omega) ?_ ?_
  · have e1 : (List.map (fun _ : Fo => O.sh (.bl true)) fs) = fs.map (O.sh ∘ fun _ => T.bl true) := rfl
    simp -implicitDefEqProofs
    rw [bls_map fs fun _ => true]
    have e2 : (fs.map fun _ => true).all id = true := by rw [List.all_map]; simp
    simp -implicitDefEqProofs [e2]
    refine lcI ?_
    simp -implicitDefEqProofs
    refine compMapF (f := fun f => .sh (.str (txS f))) rfl (by omega) ?_ ?_
    · simp -implicitDefEqProofs
      have hb : ∀ l : List Fo, (∀ f ∈ l, (txS f).length ≤ 4000) → ((l.map txS).map (·.length)).sum ≤ 4000 * l.length := fun l => by
        induction l with
        | nil => intro _; simp
        | cons a l ih =>
          intro h
          have h1 := ih fun f hf => h f (List.mem_cons_of_mem _ hf)
          have h2 := h a (by simp)
          simp only [List.map_cons, List.sum_cons, List.length_cons]
          omega
      have hb2 := hb fs fun f hf2 => by
        have h1 := tx_len f (hf f hf2).2
        have h2 := (hf f hf2).1
        rw [cps_len]
        show (f.txt strV).length ≤ 4000
        omega
      refine ⟨fs.map txS, .inl (by rw [List.map_map]; rfl), ?_, ?_⟩
      · rw [el, List.length_map]
        omega
      · rw [hj]
        simp -implicitDefEqProofs
        exact hk
    · intro f hf2 C E hE
      simp -implicitDefEqProofs
      refine ⟨f, rfl, by have := (hf f hf2).1; omega, (hf f hf2).2, ?_⟩
      simp -implicitDefEqProofs
      exact hE _ rfl
  · intro f hf2 C E hE
    simp -implicitDefEqProofs
    refine ⟨f, rfl, (hf f hf2).2, by have := (hf f hf2).1; omega, ?_⟩
    simp -implicitDefEqProofs
    exact hE _ rfl
def g__law_told07 : GT := fun ts K _ => ∃ (s : Str) (r : Bool), ts = [.str s, .int (if r = true then 1 else 0)] ∧ okT s ∧ K (.lst ((outL s (readO s.cps.toList r)).map .sh))
theorem pl__law_told07 (ga : Str → Addr) (cs : Addr → Prop) (tst : Addr → Option Bool) (kit : Addr → Str → Option Bool) (kitV : Addr → Option Bool)
    (e0 : ExcOk ga cs tst kit kitV "BadText" 0) (e6 : ExcOk ga cs tst kit kitV "TooDeep" 6) (e7 : ExcOk ga cs tst kit kitV "TooBig" 7)
    (ts : List T) (K0 : O → Prop) (Z0 : ZX) (h : g__law_told07 ts K0 Z0) : x__law_told07 (g_read_form ga).pf (g_read_row ga).pf g__law_is_form.pf g__law_form_text.pf cs tst kit kitV (endP K0 Z0) (TL.slots 8 ts) := by
  obtain ⟨s, r, rfl, ok, hk⟩ := h
  change told_all07 _ _ _ _ _ _ _ _ _ _
  unfold told_all07 xTry
  have suite : ∀ (c : Str) (i : Nat) (v : T), (i = 0 ∨ i = 6 ∨ i = 7) → ExcOk ga cs tst kit kitV c i → outL s (readO s.cps.toList r) = toldZ i v → ∀ (a d : Addr) (x0 x1 x2 x4 x5 x6 x7 : Option O) (D : ED), (D.rt = fun o _ => K0 o) → told_suite07 kit kitV a d (ga c) D [x0, x1, x2, some (.sh (.exn a d (ga c) [if i = 0 then "at" else "limit"] [v])), x4, x5, x6, x7] := fun c i v hi e el a d x0 x1 x2 x4 x5 x6 x7 D hD =>
    pl_suite07 kit kitV a d (ga c) D x0 x1 x2 x4 x5 x6 x7 i v hi e.kit fun ρ => by rw [hD, ← el]; exact hk
  cases r with
  | false =>
    simp -implicitDefEqProofs
    refine ⟨s, rfl, ok, ?_, fun f hf => ?_⟩
    · cases hq : readF s.cps.toList with
      | bad k => exact ⟨e0.cs, true, e0.tst, fun _ a d => suite "BadText" 0 (.int (k : Nat)) (.inl rfl) e0 (by show outL s (readF _) = _; rw [hq]; rfl) a d _ _ _ _ _ _ _ _ rfl, by simp⟩
      | deep => exact ⟨e6.cs, true, e6.tst, fun _ a d => suite "TooDeep" 6 (.int 24) (.inr (.inl rfl)) e6 (by show outL s (readF _) = _; rw [hq]; rfl) a d _ _ _ _ _ _ _ _ rfl, by simp⟩
      | big => exact ⟨e7.cs, true, e7.tst, fun _ a d => suite "TooBig" 7 (.int 100) (.inr (.inr rfl)) e7 (by show outL s (readF _) = _; rw [hq]; rfl) a d _ _ _ _ _ _ _ _ rfl, by simp⟩
      | ok fs => trivial
    · obtain ⟨g, h1, h2, h3, h4⟩ := readF_ok hf
      cases h1
      have e : outL s (readO s.cps.toList false) = [.str "answer", .str s] := by
        show outL s (readF s.cps.toList) = _
        rw [hf]
        rfl
      rw [e] at hk
      simp -implicitDefEqProofs
      exact pl_end07 s false [f] none none none none none K0 Z0 rfl (by simpa using ⟨h2, h3⟩) (by
        apply str_ext
        rw [← h4]
        show (Txt.join " <= " [txS f]).cps.toList = _
        rw [join_eq]
        show tl (Str.join " <= " [txS f]) = _
        rw [tl_join]
        rfl) ok.2 hk
  | true =>
    simp -implicitDefEqProofs
    refine ⟨s, rfl, ok, ?_, fun f g hf => ?_⟩
    · cases hq : readR s.cps.toList with
      | bad k => exact ⟨e0.cs, true, e0.tst, fun _ a d => suite "BadText" 0 (.int (k : Nat)) (.inl rfl) e0 (by show outL s (readR _) = _; rw [hq]; rfl) a d _ _ _ _ _ _ _ _ rfl, by simp⟩
      | deep => exact ⟨e6.cs, true, e6.tst, fun _ a d => suite "TooDeep" 6 (.int 24) (.inr (.inl rfl)) e6 (by show outL s (readR _) = _; rw [hq]; rfl) a d _ _ _ _ _ _ _ _ rfl, by simp⟩
      | big => exact ⟨e7.cs, true, e7.tst, fun _ a d => suite "TooBig" 7 (.int 100) (.inr (.inr rfl)) e7 (by show outL s (readR _) = _; rw [hq]; rfl) a d _ _ _ _ _ _ _ _ rfl, by simp⟩
      | ok fs => trivial
    · obtain ⟨f', g', h1, h2, h3, h4, h5, h6⟩ := readR_ok hf
      cases h1
      have e : outL s (readO s.cps.toList true) = [.str "answer", .str s] := by
        show outL s (readR s.cps.toList) = _
        rw [hf]
        rfl
      rw [e] at hk
      simp -implicitDefEqProofs
      exact pl_end07 s true [f, g] none none none none none K0 Z0 rfl (by simpa using ⟨⟨h2, h3⟩, h4, h5⟩) (by
        apply str_ext
        rw [← h6]
        show (Txt.join " <= " [txS f, txS g]).cps.toList = _
        rw [join_eq]
        show tl (Str.join " <= " [txS f, txS g]) = _
        rw [tl_join]
        have ew : tl (Str.ofString " <= ") = wLe := by decide +kernel
        show tl (txS f) ++ (tl (Str.ofString " <= ") ++ tl (txS g)) = _
        rw [ew, List.append_assoc]
        rfl) ok.2 hk
end Rd
end TL
set_option maxHeartbeats 4000000
namespace TL
open PySem PySem.Spec PyProof.Rows L2
namespace Rd
def Fo.gq (_ : Fo) : Prop := True
theorem gq_fn {a b : Fo} (h : a.gq) (h2 : b.gq) : (Fo.fn a b).gq := trivial
theorem gq_pr {a b : Fo} (h : a.gq) (h2 : b.gq) : (Fo.pr a b).gq := trivial
theorem gq_sel {a : Fo} (h : a.gq) : (Fo.sel a).gq := trivial
theorem gq_kind (f : Fo) : f.gq := trivial
def g__law_deep_form07 : GI := fun o ts K _ => StoreOk o ∧ ∃ (f0 : Fo) (d : Nat), ts = [f0.T, .int (d : Nat)] ∧ f0.ok ∧ f0.sz = 1 ∧ 1 ≤ d ∧ d ≤ 900 ∧ ∀ (g : Fo) o', StoreOk o' → g.ok → g.gq → g.sz ≤ 2 * d → K (.sh g.T) o'
theorem pl__law_deep_form07 (v0 : V) (o : O) (ts : List T) (K0 : O → O → Prop) (Z0 : ZX) (h : g__law_deep_form07 o ts K0 Z0) : x__law_deep_form g__law_take.pf (endI v0 K0 Z0) (some (.io v0 o) :: slots 6 ts) := by
  obtain ⟨ho, f0, d, rfl, hs, hs1, hd1, hd, hk⟩ := h
  unfold x__law_deep_form
  simp -implicitDefEqProofs
  refine foI ?_
  simp -implicitDefEqProofs
  refine ⟨by omega, ?_⟩
  refine forI (fun i ρ => ∃ (o' : O) (g : Fo) (x4 x5 x6 : Option O), ρ = [some (.io v0 o'), some (.sh f0.T), some (.sh (.int (d : Nat))), some (.sh g.T), x4, x5, x6] ∧ StoreOk o' ∧ g.ok ∧ g.gq ∧ g.sz ≤ 1 + 2 * i) ⟨o, f0, none, none, none, rfl, ho, hs, gq_kind f0, by simp [hs1]⟩ ?_ ?_
  · rintro i u ρ hu ⟨o', g, x4, x5, x6, rfl, ho', hg, hgr, hgs⟩
    obtain ⟨rfl, hi⟩ := range_at hu
    obtain ⟨cells, p, n, l, c, b, t, rfl, hp, hn⟩ := id ho'
    simp -implicitDefEqProofs
    refine ⟨ho', 5, rfl, by decide, fun k o1 ho1 h0 h1 => ?_⟩
    obtain ⟨cells1, p1, n1, l1, c1, b1, t1, rfl, hp1, hn1⟩ := id ho1
    have fin : ∀ (X : T) (g' : Fo), X = g'.T → g'.ok → g'.gq → g'.sz ≤ g.sz + 2 → ∃ (o' : O) (g : Fo), (sto cells1 p1 n1 l1 c1 b1 t1 = o' ∧ X = g.T) ∧ StoreOk o' ∧ g.ok ∧ g.gq ∧ g.sz ≤ 1 + 2 * (i + 1) := fun X g' h1 h2 h3 h4 => ⟨_, g', ⟨rfl, h1⟩, ho1, h2, h3, by omega⟩
    rcases (show k = 0 ∨ k = 1 ∨ k = 2 ∨ k = 3 ∨ k = 4 by omega) with rfl | rfl | rfl | rfl | rfl
    · simp -implicitDefEqProofs
      exact fin _ (.sel g) rfl hg (gq_sel hgr) (by simp [Fo.sz]; omega)
    · simp -implicitDefEqProofs
      exact fin _ (.pr f0 g) rfl ⟨hs, hg⟩ (gq_pr (gq_kind f0) hgr) (by simp [Fo.sz]; omega)
    · simp -implicitDefEqProofs
      exact fin _ (.fn f0 g) rfl ⟨hs, hg⟩ (gq_fn (gq_kind f0) hgr) (by simp [Fo.sz]; omega)
    · simp -implicitDefEqProofs
      exact fin _ (.pr g f0) rfl ⟨hg, hs⟩ (gq_pr hgr (gq_kind f0)) (by simp [Fo.sz]; omega)
    · simp -implicitDefEqProofs
      exact fin _ (.fn g f0) rfl ⟨hg, hs⟩ (gq_fn hgr (gq_kind f0)) (by simp [Fo.sz]; omega)
  · rintro ρ ⟨o', g, x4, x5, x6, rfl, ho', hg, hgr, hgs⟩
    rw [range_len] at hgs
    simp -implicitDefEqProofs
    exact hk g _ ho' hg hgr (by omega)
theorem pl_wf_rest07 (v0 : V) (K0 : O → O → Prop) (Z0 : ZX) (f0 : Fo) (hs1 : f0.sz = 1) (n : Nat) (hn : n ≤ 900) (hk : ∀ (g : Fo) o', StoreOk o' → g.ok → g.gq → g.sz ≤ n + 2 → K0 (.sh g.T) o') (R : List Fo) (h1 : 1 ≤ R.length) (h2 : ∀ g ∈ R, g.ok ∧ g.gq) (h3 : Fos.sz R + R.length ≤ n + 3) (o : O) (ho : StoreOk o) :
    wf_rest g__law_pick.pf (endI v0 K0 Z0) [some (.io v0 o), some (.sh f0.T), some (.sh (.int (n : Nat))), some (.lst (R.map fun g => .sh g.T)), none, none, none, none] := by
  have hz : sizeLine = 16777216 := rfl
  have fin : ∀ (R : List Fo) (o : O), 1 ≤ R.length → (∀ g ∈ R, g.ok ∧ g.gq) → Fos.sz R + R.length ≤ n + 3 → StoreOk o → ∃ g r, R = g :: r ∧ K0 (.sh g.T) o := fun R o h1 h2 h3 ho => by
    cases R with
    | nil => simp at h1
    | cons g r =>
      simp at h3
      exact ⟨g, r, rfl, hk g o ho (h2 g (by simp)).1 (h2 g (by simp)).2 (by omega)⟩
  unfold wf_rest
  simp -implicitDefEqProofs
  refine foI ?_
  simp -implicitDefEqProofs
  refine forI (fun i ρ => ∃ (o' : O) (R : List Fo) (x5 x6 x7 : Option O), ρ = [some (.io v0 o'), some (.sh f0.T), some (.sh (.int (n : Nat))), some (.lst (R.map fun g => .sh g.T)), none, x5, x6, x7] ∧ StoreOk o' ∧ 1 ≤ R.length ∧ (∀ g ∈ R, g.ok ∧ g.gq) ∧ Fos.sz R + R.length ≤ n + 3) ⟨o, R, none, none, none, rfl, ho, h1, h2, h3⟩ ?_ ?_
  · rintro i u ρ hu ⟨o', R, x5, x6, x7, rfl, ho', h1, h2, h3⟩
    obtain ⟨rfl, hi⟩ := range_at hu
    obtain ⟨cells, p, n', l, c, b, t, rfl, hp, hn'⟩ := id ho'
    by_cases q : (R.length : Int) < 2
    · obtain ⟨g, r, rfl, hkk⟩ := fin R _ h1 h2 h3 ho'
      have q2 : (r.length : Int) + 1 < 2 := by simpa using q
      simp -implicitDefEqProofs [q2]
      exact hkk
    · simp -implicitDefEqProofs [q]
      refine ⟨ho', _, [.str "fn", .str "pair"], rfl, .inl rfl, by simp, by simp, fun w hw o2 ho2 => ?_⟩
      obtain ⟨N, hN, hNs⟩ : ∃ N : Fo → Fo → Fo, (∀ x y : Fo, T.tup [w, x.T, y.T] = (N x y).T) ∧ ∀ x y : Fo, (N x y).sz = 1 + x.sz + y.sz ∧ (x.ok → y.ok → (N x y).ok) ∧ (x.gq → y.gq → (N x y).gq) := by
        simp at hw
        rcases hw with rfl | rfl
        · exact ⟨.fn, fun x y => rfl, fun x y => ⟨rfl, fun a b => ⟨a, b⟩, gq_fn⟩⟩
        · exact ⟨.pr, fun x y => rfl, fun x y => ⟨rfl, fun a b => ⟨a, b⟩, gq_pr⟩⟩
      obtain ⟨cells2, p2, n2, l2, c2, b2, t2, rfl, hp2, hn2⟩ := id ho2
      clear hw
      have hRl : R.length ≤ 2000 := by omega
      have hdv : (R.length : Int) / 2 = ((R.length / 2 : Nat) : Int) := by omega
      simp -implicitDefEqProofs
      refine lcI ?_
      simp -implicitDefEqProofs
      refine ⟨⟨by decide, by decide⟩, by omega, ?_⟩
      rw [hdv]
      refine compI (fun k acc ρ => ∃ P : List Fo, acc = (P.map fun g => .sh g.T) ∧ P.length = k ∧ Fos.sz P = Fos.sz (R.take (2 * k)) + k ∧ (∀ g ∈ P, g.ok ∧ g.gq) ∧ ρ = [some (.io v0 (sto cells2 p2 n2 l2 c2 b2 t2)), some (.sh f0.T), some (.sh (.int (n : Nat))), some (.lst (R.map fun g => .sh g.T)), none, some (.sh (.int (i : Nat))), some (.sh w), x7]) ⟨[], by simp, rfl, by simp, by simp, by simp⟩ ?_ ?_
      · rintro k v acc ρ hv ⟨P, rfl, hPl, hPs, hP, rfl⟩
        obtain ⟨rfl, hkl⟩ := range_at hv
        have hkl2 : k < R.length / 2 := by omega
        obtain ⟨x, hx⟩ : ∃ x, R[2 * k]? = some x := ⟨R[2 * k]'(by omega), List.getElem?_eq_getElem (by omega)⟩
        obtain ⟨y, hy⟩ : ∃ y, R[2 * k + 1]? = some y := ⟨R[2 * k + 1]'(by omega), List.getElem?_eq_getElem (by omega)⟩
        have ax : atI (R.map fun g => O.sh g.T) (2 * (k : Int)) = some (.sh x.T) := by
          rw [show (2 * (k : Int)) = ((2 * k : Nat) : Int) by omega, atI_nat, List.getElem?_map, hx]; rfl
        have ay : atI (R.map fun g => O.sh g.T) (2 * (k : Int) + 1) = some (.sh y.T) := by
          rw [show (2 * (k : Int) + 1) = ((2 * k + 1 : Nat) : Int) by omega, atI_nat, List.getElem?_map, hy]; rfl
        simp -implicitDefEqProofs [ax, ay]
        have e2 : R.take (2 * (k + 1)) = R.take (2 * k) ++ [x] ++ [y] := by
          rw [show 2 * (k + 1) = 2 * k + 1 + 1 by omega, take_snoc hy, take_snoc hx]
        refine ⟨cmul_r (by omega) (by omega), by omega, P ++ [N x y], by simp [hN], by simp [hPl], ?_, fun a ha => ?_⟩
        · rw [e2, fos_app, fos_app, fos_app, fos_cons, (hNs x y).1, hPs]
          simp
          omega
        · rcases List.mem_append.mp ha with ha | ha
          · exact hP a ha
          · rw [List.mem_singleton.mp ha]
            have h4 := h2 x (List.mem_of_getElem? hx)
            have h5 := h2 y (List.mem_of_getElem? hy)
            exact ⟨(hNs x y).2.1 h4.1 h5.1, (hNs x y).2.2 h4.2 h5.2⟩
      · rintro acc ρ ⟨P, rfl, hPl, hPs, hP, rfl⟩
        rw [range_len] at hPl hPs
        have hpl2 : P.length = R.length / 2 := by omega
        have htk : Fos.sz P = Fos.sz (R.take (2 * (R.length / 2))) + R.length / 2 := by
          rw [hPs]
          congr 1
        have hsp := fos_split R (2 * (R.length / 2))
        by_cases od : (R.length : Int) % 2 = 1
        · obtain ⟨R', z, rfl⟩ := list_one h1
          have hz2 := h2 z (by simp)
          have od2 : ((R'.length : Int) + 1) % 2 = 1 := by simpa using od
          simp -implicitDefEqProofs [od, od2]
          refine ⟨by omega, _, P ++ [z], ⟨rfl, by simp⟩, ho2, by simp, fun a ha => ?_, ?_⟩
          · rcases List.mem_append.mp ha with ha | ha
            · exact hP a ha
            · rw [List.mem_singleton.mp ha]; exact hz2
          · have e3 : (R' ++ [z]).drop (2 * ((R' ++ [z]).length / 2)) = [z] := by
              simp at od ⊢
              have : 2 * ((R'.length + 1) / 2) = R'.length := by omega
              rw [this]
              simp
            rw [e3] at hsp
            rw [fos_app, List.length_append]
            simp at hsp htk h3 hpl2 ⊢
            omega
        · have e3 : R.drop (2 * (R.length / 2)) = [] := List.drop_eq_nil_of_le (by omega)
          rw [e3] at hsp
          simp -implicitDefEqProofs [od]
          refine ⟨_, P, ⟨rfl, rfl⟩, ho2, by omega, hP, ?_⟩
          simp at hsp
          omega
  · rintro ρ ⟨o', R, x5, x6, x7, rfl, ho', h1, h2, h3⟩
    obtain ⟨g, r, rfl, hkk⟩ := fin R _ h1 h2 h3 ho'
    obtain ⟨cells, p, n', l, c, b, t, rfl, hp, hn'⟩ := id ho'
    simp -implicitDefEqProofs
    exact hkk
def g__law_wide_form07 : GI := fun o ts K _ => StoreOk o ∧ ∃ (f0 : Fo) (n : Nat), ts = [f0.T, .int (n : Nat)] ∧ f0.ok ∧ f0.sz = 1 ∧ 1 ≤ n ∧ n ≤ 900 ∧ ∀ (g : Fo) o', StoreOk o' → g.ok → g.gq → g.sz ≤ n + 2 → K (.sh g.T) o'
theorem pl__law_wide_form07 (v0 : V) (o : O) (ts : List T) (K0 : O → O → Prop) (Z0 : ZX) (h : g__law_wide_form07 o ts K0 Z0) : x__law_wide_form g__law_pick.pf (endI v0 K0 Z0) (some (.io v0 o) :: slots 7 ts) := by
  obtain ⟨ho, f0, n, rfl, hs, hs1, hn1, hn, hk⟩ := h
  have hz : sizeLine = 16777216 := rfl
  have hm : (((n : Nat) : Int) + 1) / 2 = (((n + 1) / 2 : Nat) : Int) := by omega
  change wf_all _ _ _
  unfold wf_all
  simp -implicitDefEqProofs
  refine lcI ?_
  simp -implicitDefEqProofs
  refine ⟨⟨by decide, by decide⟩, by omega, ?_⟩
  rw [hm]
  refine compMap (f := fun _ => .sh f0.T) rfl (by simp; omega) ?_ fun v hv C E hE => ?_
  · have e0 : (rangeL 0 ((((n + 1) / 2 : Nat) : Int)).toNat).map (fun _ => O.sh f0.T) = (List.replicate ((n + 1) / 2) f0).map fun g => O.sh g.T := by
      rw [List.map_replicate]
      have : ((((n + 1) / 2 : Nat) : Int)).toNat = (n + 1) / 2 := by omega
      rw [this]
      unfold rangeL
      rw [List.map_map]
      apply List.ext_getElem
      · simp
      · intro i h1 h2
        simp
    rw [e0]
    have hrs : ∀ k, Fos.sz (List.replicate k f0) = k := fun k => by
      induction k with
      | zero => rfl
      | succ k ih => rw [List.replicate_succ, fos_cons, ih]; omega
    simp -implicitDefEqProofs
    obtain ⟨k, hk1⟩ : ∃ k, (n + 1) / 2 = k + 1 := ⟨(n + 1) / 2 - 1, by omega⟩
    by_cases ev : (n : Int) % 2 = 0
    · have e1 : ixN ((n + 1) / 2) (-1) = some k := by rw [ixN_m1 _ (by omega), hk1]; rfl
      have e2 : (List.replicate ((n + 1) / 2) (O.sh f0.T)).set k (.sh (.tup [.str "seal", f0.T])) = (List.replicate k f0 ++ [Fo.sel f0]).map fun g => O.sh g.T := by
        rw [hk1, List.replicate_succ', List.set_append_right _ _ (by simp)]
        simp [Fo.T]
      simp -implicitDefEqProofs [ev, e1]
      have fin := pl_wf_rest07 v0 K0 Z0 f0 hs1 n hn hk (List.replicate k f0 ++ [Fo.sel f0]) (by simp) (fun g hg => by
        rcases List.mem_append.mp hg with hg | hg
        · rw [(List.mem_replicate.mp hg).2]; exact ⟨hs, gq_kind f0⟩
        · rw [List.mem_singleton.mp hg]; exact ⟨hs, gq_sel (gq_kind f0)⟩) (by rw [fos_app, hrs]; simp [Fo.sz]; omega) o ho
      rw [← e2] at fin
      simpa using fin
    · simp -implicitDefEqProofs [ev]
      have fin := pl_wf_rest07 v0 K0 Z0 f0 hs1 n hn hk (List.replicate ((n + 1) / 2) f0) (by simp; omega) (fun g hg => by
        rw [(List.mem_replicate.mp hg).2]; exact ⟨hs, gq_kind f0⟩) (by rw [hrs]; simp; omega) o ho
      simpa using fin
  · simp -implicitDefEqProofs
    exact hE _ rfl
end Rd
end TL
set_option maxHeartbeats 4000000
namespace TL
open PySem PySem.Spec PyProof.Rows L2
namespace Rd
theorem str_app {a b : Str} (ha : PyData.strOk a = true) (hb : PyData.strOk b = true) : PyData.strOk (a ++ b) = true := by
  rw [strOk_iff] at ha hb ⊢
  intro c hc
  rw [cps_app] at hc
  rcases List.mem_append.mp hc with hc | hc
  · exact ha c hc
  · exact hb c hc
theorem cut_ok {s : Str} (h : PyData.strOk s = true) (lo hi : Option Int) : PyData.strOk (cutS s lo hi) = true := by
  rw [strOk_iff] at h ⊢
  intro c hc
  unfold cutS at hc
  exact h c (List.mem_of_mem_drop (List.mem_of_mem_take hc))
theorem cut_len (s : Str) (lo hi : Option Int) : (cutS s lo hi).length ≤ s.length := by
  rw [cps_len, cps_len]
  unfold cutS
  simp
  omega
def isSeqW (t : T) (xs : List T) : Prop := isSeq t xs ∨ ∃ z : Str, t = .str z ∧ xs = z.cps.toList.map fun c => .str ⟨#[c]⟩
def g__law_pickW : GI := fun o ts K _ => StoreOk o ∧ ∃ (t : T) (xs : List T), ts = [t] ∧ isSeqW t xs ∧ xs ≠ [] ∧ xs.length ≤ 1000000 ∧ ∀ x ∈ xs, ∀ o', StoreOk o' → K (.sh x) o'
theorem pl__law_pickW (v0 : V) (o : O) (ts : List T) (K0 : O → O → Prop) (Z0 : ZX) (h : g__law_pickW o ts K0 Z0) : x__law_pick g__law_take.pf (endI v0 K0 Z0) (some (.io v0 o) :: slots 1 ts) := by
  obtain ⟨ho, t, xs, rfl, hs, hne, hl, hk⟩ := h
  rcases hs with hs | ⟨z, rfl, rfl⟩
  · exact pl__law_pick v0 o [t] K0 Z0 ⟨ho, t, xs, rfl, hs, hne, hl, hk⟩
  · obtain ⟨cells, p, n, l, c, b, s, rfl, hp, hn⟩ := id ho
    have hlen := cps_len z
    rw [List.length_map] at hl
    have hpos : 0 < z.cps.toList.length := List.length_pos_iff.mpr fun q => hne (by rw [q]; rfl)
    have hz : sizeLine = 16777216 := rfl
    unfold x__law_pick
    simp -implicitDefEqProofs
    refine ⟨by omega, ho, _, rfl, by omega, fun k o' ho' h0 h1 => ?_⟩
    obtain ⟨m, rfl⟩ : ∃ m : Nat, k = m := ⟨k.toNat, by omega⟩
    have hm : m < z.cps.toList.length := by omega
    have e : z.cps.toList[m]? = some z.cps.toList[m] := List.getElem?_eq_getElem hm
    have hkk := hk (.str ⟨#[z.cps.toList[m]]⟩) (List.mem_map.mpr ⟨_, List.getElem_mem hm, rfl⟩) o' ho'
    have e2 := e
    simp only [Array.getElem?_toList] at e2
    have hle : z.length ≤ 16777216 := by omega
    simp -implicitDefEqProofs [e, e2, hle]
    exact hkk
def g__law_spoilt : GI := fun o ts K _ => StoreOk o ∧ ∃ s : Str, ts = [.str s] ∧ PyData.strOk s = true ∧ s.length ≤ 100000 ∧ ∀ (y : Str) o', StoreOk o' → PyData.strOk y = true → y.length ≤ 4 * s.length + 10 → K (.sh (.str y)) o'
theorem pl__law_spoilt (v0 : V) (o : O) (ts : List T) (K0 : O → O → Prop) (Z0 : ZX) (h : g__law_spoilt o ts K0 Z0) : x__law_spoilt g__law_pickW.pf g__law_amount.pf (endI v0 K0 Z0) (some (.io v0 o) :: slots 5 ts) := by
  obtain ⟨ho, s, rfl, hso, hsl, hk⟩ := h
  obtain ⟨cells, p, n, l, c, b, q, rfl, hp, hn⟩ := id ho
  unfold x__law_spoilt
  simp -implicitDefEqProofs
  refine ⟨ho, _, _, rfl, .inr ⟨_, rfl, rfl⟩, by decide +kernel, by decide +kernel, fun x hx o1 ho1 => ?_⟩
  obtain ⟨c1, rfl, hc1⟩ : ∃ c : Nat, x = .str ⟨#[c]⟩ ∧ c < 1114112 := by
    obtain ⟨c, hc, rfl⟩ := List.mem_map.mp hx
    refine ⟨c, rfl, ?_⟩
    exact (show ∀ c ∈ (Str.ofString " !\"#$&'()*+,-./0123456789:;<=>?@ABCDEFGHIJKLMNOPQRSTUVWXYZ[\\]^_`abcdefghijklmnopqrstuvwxyz{|}~").cps.toList, c < 1114112 by decide +kernel) c hc
  clear hx
  obtain ⟨cells1, p1, n1, l1, k1, b1, q1, rfl, hp1, hn1⟩ := id ho1
  simp -implicitDefEqProofs
  refine ⟨ho1, _, _, rfl, .inr ⟨_, rfl, rfl⟩, by decide +kernel, by decide +kernel, fun x hx o2 ho2 => ?_⟩
  obtain ⟨c2, rfl, hc2⟩ : ∃ c : Nat, x = .str ⟨#[c]⟩ ∧ c < 1114112 := by
    obtain ⟨c, hc, rfl⟩ := List.mem_map.mp hx
    refine ⟨c, rfl, ?_⟩
    exact (show ∀ c ∈ (Str.ofString " ()[]<>-=*?0a").cps.toList, c < 1114112 by decide +kernel) c hc
  clear hx
  obtain ⟨cells2, p2, n2, l2, k2, b2, q2, rfl, hp2, hn2⟩ := id ho2
  simp -implicitDefEqProofs
  refine ⟨ho2, _, _, rfl, .inl (.inl rfl), by simp, by simp, fun x hx o3 ho3 => ?_⟩
  obtain ⟨c3, rfl, hc3⟩ : ∃ c : Nat, x = .str ⟨#[c]⟩ ∧ c < 1114112 := by
    simp only [List.mem_cons, List.not_mem_nil, or_false] at hx
    rcases hx with rfl | rfl
    · exact ⟨c1, rfl, hc1⟩
    · exact ⟨c2, rfl, hc2⟩
  clear hx
  obtain ⟨cells3, p3, n3, l3, k3, b3, q3, rfl, hp3, hn3⟩ := id ho3
  simp -implicitDefEqProofs
  refine ⟨by omega, ho3, 0, _, rfl, by omega, fun a o4 ho4 a0 a1 => ?_⟩
  obtain ⟨cells4, p4, n4, l4, k4, b4, q4, rfl, hp4, hn4⟩ := id ho4
  have hone : (⟨#[c3]⟩ : Str).length = 1 := rfl
  have hso3 : PyData.strOk ⟨#[c3]⟩ = true := by unfold PyData.strOk; simpa using hc3
  have d1 := cut_len s none (some a)
  have d2 := cut_len s (some (a + 1)) none
  have d3 := cut_len s (some a) none
  have d4 := cut_len s (some a) (some (a + 1))
  have d5 := cut_len s (some (a + 1)) (some (a + 2))
  have d6 := cut_len s (some (a + 2)) none
  have f1 := cut_ok hso none (some a)
  have f2 := cut_ok hso (some (a + 1)) none
  have f3 := cut_ok hso (some a) none
  have f4 := cut_ok hso (some a) (some (a + 1))
  have f5 := cut_ok hso (some (a + 1)) (some (a + 2))
  have f6 := cut_ok hso (some (a + 2)) none
  simp -implicitDefEqProofs
  refine ⟨by omega, by omega, by omega, by rw [hone]; omega, by omega, by rw [app_len, hone]; omega, by omega, by rw [hone]; omega, by omega, by rw [app_len, hone]; omega, by omega, by omega, by omega, by rw [app_len]; omega, by omega, by omega, by omega, by rw [app_len]; omega, by omega, by rw [app_len, app_len]; omega, ?_⟩
  refine ⟨ho4, _, _, rfl, .inl (.inl rfl), by simp, by simp, fun x hx o5 ho5 => ?_⟩
  obtain ⟨y, rfl, hy1, hy2⟩ : ∃ y : Str, x = .str y ∧ PyData.strOk y = true ∧ y.length ≤ 4 * s.length + 10 := by
    simp only [List.mem_cons, List.not_mem_nil, or_false] at hx
    rcases hx with rfl | rfl | rfl | rfl | rfl | rfl
    · exact ⟨_, rfl, f1, by omega⟩
    · exact ⟨_, rfl, str_app f1 f2, by rw [app_len]; omega⟩
    · exact ⟨_, rfl, str_app (str_app f1 hso3) f3, by rw [app_len, app_len, hone]; omega⟩
    · exact ⟨_, rfl, str_app (str_app f1 hso3) f2, by rw [app_len, app_len, hone]; omega⟩
    · exact ⟨_, rfl, str_app (str_app f1 f4) f3, by rw [app_len, app_len]; omega⟩
    · exact ⟨_, rfl, str_app (str_app (str_app f1 f5) f4) f6, by rw [app_len, app_len, app_len]; omega⟩
  clear hx
  simp -implicitDefEqProofs
  exact hk y o5 ho5 hy1 hy2
def g__law_made07 : GI := fun o ts K _ => StoreOk o ∧ ∃ (xs : List T) (many : Int), ts = [.lst xs, .int many] ∧ 0 ≤ many ∧ many ≤ 10000 ∧ xs.length ≤ 1000000 ∧ xs ≠ [] ∧ kinds6 xs ∧ ∀ (f : Fo) o', StoreOk o' → f.ok → f.sz ≤ 250 → K (.sh f.T) o'
theorem pl__law_made07 (v0 : V) (o : O) (ts : List T) (K0 : O → O → Prop) (Z0 : ZX) (h : g__law_made07 o ts K0 Z0) : x__law_made g__law_form06.pf g__law_take.pf g__law_leaf06.pf g__law_deep_form07.pf g__law_wide_form07.pf (endI v0 K0 Z0) (some (.io v0 o) :: slots 4 ts) := by
  obtain ⟨ho, xs, many, rfl, hm0, hm, hxl, hx0, hx, hk⟩ := h
  obtain ⟨cells, p, n, l, c, b, q, rfl, hp, hn⟩ := id ho
  unfold x__law_made
  simp -implicitDefEqProofs
  refine ⟨ho, 9, rfl, by decide, fun k o1 ho1 h0 h1 => ?_⟩
  obtain ⟨cells1, p1, n1, l1, k1, b1, q1, rfl, hp1, hn1⟩ := id ho1
  simp -implicitDefEqProofs
  refine ⟨ho1, xs, many, _, rfl, hm0, hm, hxl, hx0, hx, by omega, by omega, fun f o2 ho2 f1 f2 => ?_⟩
  obtain ⟨cells2, p2, n2, l2, k2, b2, q2, rfl, hp2, hn2⟩ := id ho2
  simp -implicitDefEqProofs
  refine ⟨ho2, xs, many, rfl, hm0, hm, hxl, hx0, hx, fun f0 o3 ho3 g1 g2 => ?_⟩
  have hs1 := lf_sz g2
  obtain ⟨cells3, p3, n3, l3, k3, b3, q3, rfl, hp3, hn3⟩ := id ho3
  simp -implicitDefEqProofs
  refine ⟨ho3, 6, rfl, by decide, fun w o4 ho4 w0 w1 => ?_⟩
  obtain ⟨cells4, p4, n4, l4, k4, b4, q4, rfl, hp4, hn4⟩ := id ho4
  by_cases w5 : w = 5
  · simp -implicitDefEqProofs [w5]
    refine ⟨ho4, 75, rfl, by decide, fun u o5 ho5 u0 u1 => ?_⟩
    obtain ⟨cells5, p5, n5, l5, k5, b5, q5, rfl, hp5, hn5⟩ := id ho5
    simp -implicitDefEqProofs
    refine ⟨ho5, 5, rfl, by decide, fun i o6 ho6 i0 i1 => ?_⟩
    obtain ⟨cells6, p6, n6, l6, k6, b6, q6, rfl, hp6, hn6⟩ := id ho6
    obtain ⟨d, hd, hd2⟩ : ∃ d : Nat, ([.int 23, .int 24, .int 25, .int 26, .int (24 + u)] : List T)[i.toNat]? = some (.int (d : Nat)) ∧ 1 ≤ d ∧ d ≤ 98 := by
      rcases (show i = 0 ∨ i = 1 ∨ i = 2 ∨ i = 3 ∨ i = 4 by omega) with rfl | rfl | rfl | rfl | rfl
      · exact ⟨23, rfl, by decide⟩
      · exact ⟨24, rfl, by decide⟩
      · exact ⟨25, rfl, by decide⟩
      · exact ⟨26, rfl, by decide⟩
      · obtain ⟨m, rfl⟩ : ∃ m : Nat, u = m := ⟨u.toNat, by omega⟩
        exact ⟨24 + m, by simp, by omega⟩
    obtain ⟨j, rfl⟩ : ∃ j : Nat, i = j := ⟨i.toNat, by omega⟩
    rw [Int.toNat_natCast] at hd
    simp -implicitDefEqProofs [hd]
    refine ⟨ho6, f0, d, rfl, g1, hs1, hd2.1, by omega, fun g o7 ho7 r1 _ r3 => ?_⟩
    obtain ⟨cells7, p7, n7, l7, k7, b7, q7, rfl, hp7, hn7⟩ := id ho7
    simp -implicitDefEqProofs
    exact hk g _ ho7 r1 (by omega)
  · simp -implicitDefEqProofs [w5]
    refine ⟨ho4, 6, rfl, by decide, fun u o5 ho5 u0 u1 => ?_⟩
    obtain ⟨cells5, p5, n5, l5, k5, b5, q5, rfl, hp5, hn5⟩ := id ho5
    by_cases u5 : u = 5
    · simp -implicitDefEqProofs [u5]
      refine ⟨ho5, 5, rfl, by decide, fun i o6 ho6 i0 i1 => ?_⟩
      obtain ⟨cells6, p6, n6, l6, k6, b6, q6, rfl, hp6, hn6⟩ := id ho6
      obtain ⟨d, hd, hd2⟩ : ∃ d : Nat, ([.int 99, .int 100, .int 101, .int 102, .int 200] : List T)[i.toNat]? = some (.int (d : Nat)) ∧ 1 ≤ d ∧ d ≤ 200 := by
        rcases (show i = 0 ∨ i = 1 ∨ i = 2 ∨ i = 3 ∨ i = 4 by omega) with rfl | rfl | rfl | rfl | rfl
        · exact ⟨99, rfl, by decide⟩
        · exact ⟨100, rfl, by decide⟩
        · exact ⟨101, rfl, by decide⟩
        · exact ⟨102, rfl, by decide⟩
        · exact ⟨200, rfl, by decide⟩
      obtain ⟨j, rfl⟩ : ∃ j : Nat, i = j := ⟨i.toNat, by omega⟩
      rw [Int.toNat_natCast] at hd
      simp -implicitDefEqProofs [hd]
      refine ⟨ho6, f0, d, rfl, g1, hs1, hd2.1, by omega, fun g o7 ho7 r1 _ r3 => ?_⟩
      obtain ⟨cells7, p7, n7, l7, k7, b7, q7, rfl, hp7, hn7⟩ := id ho7
      simp -implicitDefEqProofs
      exact hk g _ ho7 r1 (by omega)
    · simp -implicitDefEqProofs [u5]
      exact hk f _ ho5 f1 (by omega)
theorem ok_lv : ∀ f : Fo, f.ok → f.lv lfG
  | .kind s, h => by
    obtain ⟨h1, h2⟩ : sOk s ∧ knT (.str s) = true := h
    rw [knT_s] at h2
    unfold knL at h2
    simp only [Bool.and_eq_true, decide_eq_true_eq] at h2
    have a1 := cntR_n isL 8 s.cps.toList
    have a2 := cntR_n isG 2 (s.cps.toList.drop (cntR isL 8 s.cps.toList))
    have hl := cps_len s
    refine ⟨h1.1, by omega, fun c hc => ?_⟩
    have e : s.cps.toList = s.cps.toList.take (cntR isL 8 s.cps.toList) ++ (s.cps.toList.drop (cntR isL 8 s.cps.toList)).take (cntR isG 2 (s.cps.toList.drop (cntR isL 8 s.cps.toList))) := by
      have : (s.cps.toList.drop (cntR isL 8 s.cps.toList)).take (cntR isG 2 (s.cps.toList.drop (cntR isL 8 s.cps.toList))) = s.cps.toList.drop (cntR isL 8 s.cps.toList) := List.take_of_length_le (by rw [List.length_drop]; omega)
      rw [this, List.take_append_drop]
    rw [e] at hc
    rcases List.mem_append.mp hc with hc | hc
    · exact .inl (cntR_take _ _ c hc)
    · exact .inr (cntR_take _ _ c hc)
  | .var n, h => h
  | .fn a b, h => ⟨ok_lv a h.1, ok_lv b h.2⟩
  | .pr a b, h => ⟨ok_lv a h.1, ok_lv b h.2⟩
  | .sel a, h => ok_lv a h
end Rd
end TL
set_option maxHeartbeats 4000000
namespace TL
open PySem PySem.Spec PyProof.Rows L2
namespace Rd
def l7_d (g__law_store : PF) (g__law_letters : IF) (g__law_take : IF) (g__law_pick : IF) (g__law_made : IF) (g__law_form_text : PF) (g__law_scan : PF) (g__law_same : PF) (g_show_row : PF) (g_show_form : PF) (g__law_spoilt : IF) (g__law_due : PF) (g__law_told : PF) : XS := (xSeq (xFor (xSeqI (x2 addT (xName 10) (xName 7))) (gN 9) (xFor (xSeqI (xLst (xCons (xC (.int 0)) (xCons (xC (.int 1)) (xNil))))) (gN 12) (xIfS (xNot (xTru (xCall g__law_same (xCons (xCall g__law_told (xCons (xName 9) (xCons (xName 12) (xNil)))) (xCons (xCall g__law_due (xCons (xName 9) (xCons (xName 12) (xNil)))) (xNil)))))) (xRet (xC (.bl false))) (xNext)))) (xRet (xC (.bl true))))
def l7_f (g__law_store : PF) (g__law_letters : IF) (g__law_take : IF) (g__law_pick : IF) (g__law_made : IF) (g__law_form_text : PF) (g__law_scan : PF) (g__law_same : PF) (g_show_row : PF) (g_show_form : PF) (g__law_spoilt : IF) (g__law_due : PF) (g__law_told : PF) : XS := (xSeq (xFor (xSeqI (xLst (xCons (xC (.str " !#$&,./0123456789:;<=>?@AZ_abz{|}~")) (xCons (xC (.str " ()[]<>-=*?0a")) (xCons (xC (.str "(((ab01? -> * ] ) [ <= ")) (xNil)))))) (gN 11) (xExp (xApp 10 (xCons (xJoin (xC (.str "")) (xLc (xRng1 (xCons (xCallI 1 g__law_take (xCons (xC (.int 41)) (xNil))) (xNil))) (gN 4) (xYes) (xCallI 1 g__law_pick (xCons (xName 11) (xNil))) [4])) (xNil))))) (l7_d g__law_store g__law_letters g__law_take g__law_pick g__law_made g__law_form_text g__law_scan g__law_same g_show_row g_show_form g__law_spoilt g__law_due g__law_told))
def l7_c (g__law_store : PF) (g__law_letters : IF) (g__law_take : IF) (g__law_pick : IF) (g__law_made : IF) (g__law_form_text : PF) (g__law_scan : PF) (g__law_same : PF) (g_show_row : PF) (g_show_form : PF) (g__law_spoilt : IF) (g__law_due : PF) (g__law_told : PF) : XS := (xSeq (xAsg (xB ((un1 listT)) (xCons (xName 7) (xNil))) (gN 10)) (xSeq (xFor (xSeqI (xName 7)) (gN 9) (xFor (xRng1 (xCons (xC (.int 6)) (xNil))) (gN 4) (xExp (xApp 10 (xCons (xCallI 1 g__law_spoilt (xCons (xName 9) (xNil))) (xNil)))))) (l7_f g__law_store g__law_letters g__law_take g__law_pick g__law_made g__law_form_text g__law_scan g__law_same g_show_row g_show_form g__law_spoilt g__law_due g__law_told)))
def l7_b (g__law_store : PF) (g__law_letters : IF) (g__law_take : IF) (g__law_pick : IF) (g__law_made : IF) (g__law_form_text : PF) (g__law_scan : PF) (g__law_same : PF) (g_show_row : PF) (g_show_form : PF) (g__law_spoilt : IF) (g__law_due : PF) (g__law_told : PF) : XS := (xSeq (xIfS (xBorT (xTru (xB ((un1 (boolsT fun bs => bs.all id))) (xCons (xLc (xSeqI (xSl (xName 7) (xNoP) (xPart (xC (.int 2))))) (gN 9) (xYes) (x2 (gB (intT fun i j => decide (i < j))) (x2 ixT (x2 ixT (x2 ixT (xCall g__law_scan (xCons (xName 9) (xCons (xC (.int 0)) (xNil)))) (xC (.int 1))) (xC (.int 0))) (xC (.int 0))) (xC (.int 25))) [9]) (xNil))))) (xIfS (xBorT (xNot (xTru (xCall g__law_same (xCons (xLst (xCons (xCall g_show_form (xCons (x2 ixT (xName 6) (xC (.int 0))) (xNil))) (xCons (xCall g_show_form (xCons (x2 ixT (xName 6) (xC (.int 1))) (xNil))) (xCons (xCall g_show_row (xCons (xName 6) (xNil))) (xNil))))) (xCons (xName 7) (xNil))))))) (xRet (xC (.bl false))) (xNext)) (xNext)) (l7_c g__law_store g__law_letters g__law_take g__law_pick g__law_made g__law_form_text g__law_scan g__law_same g_show_row g_show_form g__law_spoilt g__law_due g__law_told))
def l7_all (g__law_store : PF) (g__law_letters : IF) (g__law_take : IF) (g__law_pick : IF) (g__law_made : IF) (g__law_form_text : PF) (g__law_scan : PF) (g__law_same : PF) (g_show_row : PF) (g_show_form : PF) (g__law_spoilt : IF) (g__law_due : PF) (g__law_told : PF) : XS := xSeq (xAsg (xCall g__law_store (xCons (xName 0) (xNil))) (gN 1)) (xSeq (xAsg (xLst (xCons (xC (.str "")) (xCons (xC (.str "0")) (xCons (xC (.str "9")) (xCons (xC (.str "00")) (xCons (xC (.str "57")) (xNil))))))) (gN 2)) (xSeq (xAsg (xLc (xRng1 (xCons (xC (.int 3)) (xNil))) (gN 4) (xYes) (x2 addT (xCallI 1 g__law_letters (xCons (x2 addT (xC (.int 1)) (xCallI 1 g__law_take (xCons (xC (.int 8)) (xNil)))) (xNil))) (xCallI 1 g__law_pick (xCons (xName 2) (xNil)))) [4]) (gN 3)) (xSeq (xAsg (xCallI 1 g__law_pick (xCons (xLst (xCons (xC (.int 0)) (xCons (xC (.int 2)) (xCons (xC (.int 10000)) (xNil))))) (xNil))) (gN 5)) (xSeq (xAsg (xTup (xCons (xCallI 1 g__law_made (xCons (xName 3) (xCons (xName 5) (xNil)))) (xCons (xCallI 1 g__law_made (xCons (xName 3) (xCons (xName 5) (xNil)))) (xNil)))) (gN 6)) (xSeq (xAsg (xLc (xSeqI (xName 6)) (gN 8) (xYes) (xCall g__law_form_text (xCons (xName 8) (xNil))) [8]) (gN 7)) (xSeq (xExp (xApp 7 (xCons (x2 addT (x2 addT (xIxN 7 (xC (.int 0))) (xC (.str " <= "))) (xIxN 7 (xC (.int 1)))) (xNil)))) (l7_b g__law_store g__law_letters g__law_take g__law_pick g__law_made g__law_form_text g__law_scan g__law_same g_show_row g_show_form g__law_spoilt g__law_due g__law_told)))))))
theorem cntR_all {p : Nat → Bool} : ∀ (a b : List Nat) (n : Nat), (∀ c ∈ a, p c = true) → a.length ≤ n → (∀ c, b[0]? = some c → p c = false) → cntR p n (a ++ b) = a.length
  | [], b, 0, _, _, _ => by simp [cntR]
  | [], [], n + 1, _, _, _ => by simp [cntR]
  | [], c :: b, n + 1, _, _, h => by
    have := h c rfl
    simp [cntR, this]
  | c :: a, b, 0, _, hl, _ => by simp at hl
  | c :: a, b, n + 1, ha, hl, hb => by
    have h1 := cntR_all a b n (fun x hx => ha x (List.mem_cons_of_mem _ hx)) (by simpa using hl) hb
    have h2 := ha c (by simp)
    simp [cntR, h1, h2]
def tailOk (t : Str) : Prop := (∀ c ∈ t.cps.toList, isG c = true) ∧ t.cps.toList.length ≤ 2 ∧ sOk t ∧ t.length ≤ 10
theorem name_ok {s t : Str} (h1 : sOk s) (h2 : letS s) (h3 : 1 ≤ s.length) (h4 : s.length ≤ 8) (ht : tailOk t) : (Fo.kind (s ++ t)).ok := by
  obtain ⟨t1, t2, t3, t4⟩ := ht
  refine ⟨app_ok h1 t3 (by omega), ?_⟩
  have hl := cps_len s
  have hg : ∀ c, t.cps.toList[0]? = some c → isL c = false := fun c hc => by
    have := t1 c (List.mem_of_getElem? hc)
    unfold isG at this
    unfold isL
    simp at this ⊢
    omega
  rw [knT_s, cps_app]
  have e1 := cntR_all (p := isL) s.cps.toList t.cps.toList 8 h2 (by omega) hg
  have e2 := cntR_all (p := isG) t.cps.toList [] 2 t1 t2 (fun c hc => by simp at hc)
  rw [List.append_nil] at e2
  unfold knL
  rw [e1, List.drop_left, e2]
  simp only [List.length_append, decide_eq_true_eq, Bool.and_eq_true]
  exact ⟨by omega, trivial⟩
theorem outL_pl {s : Str} (ok : okT s) (o : Out) : T.pl (.lst (outL s o)) = true ∧ T.nn (.lst (outL s o)) ≤ 10 := by
  cases o <;> simp [outL, ok.1]
theorem pl_l7_d (K0 : O → Prop) (Z0 : ZX) (hk : K0 (.sh (.bl true))) (ys zs : List Str) (hy : ∀ s ∈ zs ++ ys, okT s) (hl : zs.length ≤ 2000) (hl2 : ys.length ≤ 3) (x0 x1 x2 x3 x4 x5 x6 x8 x9 x11 x12 : Option O) (x7 : O) (h7 : RowO x7 (ys.map .str)) :
    l7_d g__law_store.pf g__law_letters06.pf g__law_take.pf g__law_pickW.pf g__law_made07.pf g__law_form_text.pf g__law_scan.pf g__law_same.pf g_show_row.pf g_show_form.pf g__law_spoilt.pf g__law_due07.pf g__law_told07.pf (endP K0 Z0) [x0, x1, x2, x3, x4, x5, x6, some x7, x8, x9, some (.lst (zs.map fun s => .sh (.str s))), x11, x12] := by
  have hz : sizeLine = 16777216 := rfl
  unfold l7_d
  simp -implicitDefEqProofs
  refine foI ?_
  simp -implicitDefEqProofs
  rw [nameE_row h7 rfl]
  simp -implicitDefEqProofs
  refine ⟨by omega, ?_⟩
  refine forI (fun i ρ => ∃ (x9 x12 : Option O), ρ = [x0, x1, x2, x3, x4, x5, x6, some (.sh (.lst (ys.map .str))), x8, x9, some (.sh (.lst (zs.map .str))), x11, x12]) ⟨_, _, rfl⟩ ?_ ?_
  · rintro i u ρ hu ⟨x9, x12, rfl⟩
    obtain ⟨s, rfl, ok⟩ : ∃ s : Str, u = .str s ∧ okT s := by
      have h1 := List.mem_of_getElem? hu
      rw [← List.map_append] at h1
      obtain ⟨s, h2, rfl⟩ := List.mem_map.mp h1
      exact ⟨s, rfl, hy s h2⟩
    simp -implicitDefEqProofs
    refine foI ?_
    simp -implicitDefEqProofs
    refine forI (fun i ρ => ∃ (x12 : Option O), ρ = [x0, x1, x2, x3, x4, x5, x6, some (.sh (.lst (ys.map .str))), x8, some (.sh (.str s)), some (.sh (.lst (zs.map .str))), x11, x12]) ⟨_, rfl⟩ ?_ ?_
    · rintro j w ρ hw ⟨x12, rfl⟩
      obtain ⟨r, rfl⟩ : ∃ r : Bool, w = .int (if r = true then 1 else 0) := by
        have h1 := List.mem_of_getElem? hw
        simp only [List.mem_cons, List.not_mem_nil, or_false] at h1
        rcases h1 with rfl | rfl
        · exact ⟨false, rfl⟩
        · exact ⟨true, rfl⟩
      clear hw
      simp -implicitDefEqProofs
      refine ⟨s, r, rfl, ok, ?_⟩
      simp -implicitDefEqProofs
      refine ⟨s, r, rfl, ok, ?_⟩
      simp -implicitDefEqProofs
      obtain ⟨w1, w2⟩ := outL_pl ok (readO s.cps.toList r)
      refine ⟨_, rfl, w1, by omega, ?_⟩
      simp -implicitDefEqProofs
    · rintro ρ ⟨x12, rfl⟩
      simp -implicitDefEqProofs
  · rintro ρ ⟨x9, x12, rfl⟩
    simp -implicitDefEqProofs
    exact hk
theorem pl_l7_f (K0 : O → Prop) (Z0 : ZX) (hk : K0 (.sh (.bl true))) (ys zs : List Str) (hy : ∀ s ∈ zs ++ ys, okT s) (hl : zs.length ≤ 1000) (hl2 : ys.length ≤ 3) (x0 x2 x3 x4 x5 x6 x8 x9 x11 x12 : Option O) (x7 : O) (h7 : RowO x7 (ys.map .str)) (o : O) (ho : StoreOk o) :
    l7_f g__law_store.pf g__law_letters06.pf g__law_take.pf g__law_pickW.pf g__law_made07.pf g__law_form_text.pf g__law_scan.pf g__law_same.pf g_show_row.pf g_show_form.pf g__law_spoilt.pf g__law_due07.pf g__law_told07.pf (endP K0 Z0) [x0, some o, x2, x3, x4, x5, x6, some x7, x8, x9, some (.lst (zs.map fun s => .sh (.str s))), x11, x12] := by
  have hz : sizeLine = 16777216 := rfl
  unfold l7_f
  simp -implicitDefEqProofs
  refine foI ?_
  simp -implicitDefEqProofs
  refine forI (fun i ρ => ∃ (x4 x11 : Option O) (o : O) (zs : List Str), ρ = [x0, some o, x2, x3, x4, x5, x6, some x7, x8, x9, some (.lst (zs.map fun s => .sh (.str s))), x11, x12] ∧ StoreOk o ∧ (∀ s ∈ zs ++ ys, okT s) ∧ zs.length ≤ 1000 + i) ⟨_, _, _, zs, rfl, ho, hy, hl⟩ ?_ ?_
  · rintro i u ρ hu ⟨x4, x11, o, zs, rfl, ho, hy, hl⟩
    have hi : i < 3 := (List.getElem?_eq_some_iff.mp hu).1
    obtain ⟨z, rfl, z1, z2, z3⟩ : ∃ z : Str, u = .str z ∧ z.cps.toList ≠ [] ∧ z.cps.toList.length ≤ 1000000 ∧ ∀ c ∈ z.cps.toList, c < 1114112 := by
      have h1 := List.mem_of_getElem? hu
      simp only [List.mem_cons, List.not_mem_nil, or_false] at h1
      rcases h1 with rfl | rfl | rfl <;> exact ⟨_, rfl, by decide +kernel, by decide +kernel, by decide +kernel⟩
    clear hu
    obtain ⟨cells, p, n, l, c, b, q, rfl, hp, hn⟩ := id ho
    simp -implicitDefEqProofs
    refine lcI ?_
    simp -implicitDefEqProofs
    refine ⟨ho, 41, rfl, by decide, fun m o2 ho2 m0 m1 => ?_⟩
    obtain ⟨cells2, p2, n2, l2, c2, b2, q2, rfl, hp2, hn2⟩ := id ho2
    simp -implicitDefEqProofs
    refine ⟨by omega, ?_⟩
    refine compI (fun k acc ρ => ∃ (o : O) (ws : List Str), ρ = [x0, some o, x2, x3, none, x5, x6, some x7, x8, x9, some (.lst (zs.map fun s => .sh (.str s))), some (.sh (.str z)), x12] ∧ StoreOk o ∧ acc = (ws.map fun s => .sh (.str s)) ∧ ws.length = k ∧ ∀ w ∈ ws, w.length = 1 ∧ PyData.strOk w = true) ⟨_, [], rfl, ho2, rfl, rfl, by simp⟩ ?_ ?_
    · rintro k u acc ρ hu ⟨o3, ws, rfl, ho3, rfl, wl, wk⟩
      obtain ⟨rfl, hk2⟩ := range_at hu
      obtain ⟨cells3, p3, n3, l3, c3, b3, q3, rfl, hp3, hn3⟩ := id ho3
      simp -implicitDefEqProofs
      refine ⟨ho3, _, _, rfl, .inr ⟨_, rfl, rfl⟩, by simpa using z1, by simpa using z2, fun x hx o4 ho4 => ?_⟩
      obtain ⟨w, rfl, w1, w2⟩ : ∃ w : Str, x = .str w ∧ w.length = 1 ∧ PyData.strOk w = true := by
        obtain ⟨c, hc, rfl⟩ := List.mem_map.mp hx
        refine ⟨_, rfl, rfl, ?_⟩
        have := z3 c hc
        unfold PyData.strOk
        simpa using this
      clear hx
      simp -implicitDefEqProofs
      refine ⟨by omega, ho4, ws ++ [w], by simp, by simp [wl], fun y hy2 => ?_⟩
      rcases List.mem_append.mp hy2 with hy2 | hy2
      · exact wk y hy2
      · rw [List.mem_singleton.mp hy2]
        exact ⟨w1, w2⟩
    · rintro acc ρ ⟨o3, ws, rfl, ho3, rfl, wl, wk⟩
      rw [range_len] at wl
      obtain ⟨cells3, p3, n3, l3, c3, b3, q3, rfl, hp3, hn3⟩ := id ho3
      have hsum : ∀ l : List Str, (∀ w ∈ l, w.length = 1 ∧ PyData.strOk w = true) → (l.map (·.length)).sum = l.length := fun l => by
        induction l with
        | nil => intro _; rfl
        | cons a l ih =>
          intro h
          have h1 := ih fun f hf => h f (List.mem_cons_of_mem _ hf)
          have h2 := (h a (by simp)).1
          simp only [List.map_cons, List.sum_cons, List.length_cons]
          omega
      have hs2 := hsum ws wk
      have e0 : (Str.ofString "").length = 0 := by decide +kernel
      simp -implicitDefEqProofs
      refine ⟨ws, .inl rfl, by rw [hs2, e0]; omega, ?_⟩
      have hj := join0 ws
      have ok : okT (Txt.join "" ws) := ⟨by
        rw [strOk_iff, hj]
        intro c hc
        obtain ⟨w, hw, hc⟩ := List.mem_flatMap.mp hc
        have h2 := (wk w hw).2
        rw [strOk_iff] at h2
        exact h2 c hc, by
        rw [cps_len, hj, List.length_flatMap]
        have : (ws.map fun z => z.cps.toList.length) = ws.map (·.length) := List.map_congr_left fun a _ => (cps_len a).symm
        rw [this, hs2]
        omega⟩
      simp -implicitDefEqProofs
      exact ⟨by omega, _, _, _, zs ++ [Txt.join "" ws], ⟨rfl, rfl, by simp, rfl⟩, ho3, fun w hw => by
        rcases hw with hw | hw
        · rcases List.mem_append.mp hw with hw | hw
          · exact hy w (by simp [hw])
          · rw [List.mem_singleton.mp hw]
            exact ok
        · exact hy w (by simp [hw]), by simp; omega⟩
  · rintro ρ ⟨x4, x11, o, zs, rfl, ho, hy, hl⟩
    simp -implicitDefEqProofs
    exact pl_l7_d K0 Z0 hk ys zs hy (by simp at hl; omega) hl2 x0 _ x2 x3 _ x5 x6 x8 x9 _ x12 x7 h7
theorem pl_l7_c (K0 : O → Prop) (Z0 : ZX) (hk : K0 (.sh (.bl true))) (ys : List Str) (hy : ∀ s ∈ ys, okT s ∧ s.length ≤ 100000) (hl : ys.length ≤ 3) (x0 x2 x3 x4 x5 x6 x8 x9 x10 x11 x12 : Option O) (x7 : O) (h7 : RowO x7 (ys.map .str)) (o : O) (ho : StoreOk o) :
    l7_c g__law_store.pf g__law_letters06.pf g__law_take.pf g__law_pickW.pf g__law_made07.pf g__law_form_text.pf g__law_scan.pf g__law_same.pf g_show_row.pf g_show_form.pf g__law_spoilt.pf g__law_due07.pf g__law_told07.pf (endP K0 Z0) [x0, some o, x2, x3, x4, x5, x6, some x7, x8, x9, x10, x11, x12] := by
  have hz : sizeLine = 16777216 := rfl
  unfold l7_c
  simp -implicitDefEqProofs
  rw [nameE_row h7 rfl]
  simp -implicitDefEqProofs
  refine foI ?_
  simp -implicitDefEqProofs
  refine forI (fun i ρ => ∃ (x4 x9 : Option O) (o : O) (zs : List Str), ρ = [x0, some o, x2, x3, x4, x5, x6, some (.sh (.lst (ys.map .str))), x8, x9, some (.lst (zs.map fun s => .sh (.str s))), x11, x12] ∧ StoreOk o ∧ (∀ s ∈ zs ++ ys, okT s) ∧ zs.length ≤ 3 + 6 * i) ⟨x4, x9, o, ys, by simp [Function.comp_def], ho, fun s hs => by
    rcases List.mem_append.mp hs with hs | hs <;> exact (hy s hs).1, by omega⟩ ?_ ?_
  · rintro i u ρ hu ⟨x4, x9, o, zs, rfl, ho, hz2, hl2⟩
    have hi : i < ys.length := by simpa using (List.getElem?_eq_some_iff.mp hu).1
    obtain ⟨s, rfl, ok⟩ : ∃ s : Str, u = .str s ∧ s ∈ ys := by
      have h1 := List.mem_of_getElem? hu
      obtain ⟨s, h2, rfl⟩ := List.mem_map.mp h1
      exact ⟨s, rfl, h2⟩
    clear hu
    obtain ⟨ok1, ok2⟩ := hy s ok
    simp -implicitDefEqProofs
    refine foI ?_
    simp -implicitDefEqProofs
    refine forI (fun j ρ => ∃ (x4 : Option O) (o : O) (zs : List Str), ρ = [x0, some o, x2, x3, x4, x5, x6, some (.sh (.lst (ys.map .str))), x8, some (.sh (.str s)), some (.lst (zs.map fun s => .sh (.str s))), x11, x12] ∧ StoreOk o ∧ (∀ s ∈ zs ++ ys, okT s) ∧ zs.length ≤ 3 + 6 * i + j) ⟨_, _, zs, rfl, ho, hz2, hl2⟩ ?_ ?_
    · rintro j u ρ hu ⟨x4, o, zs, rfl, ho, hz2, hl2⟩
      obtain ⟨rfl, hj⟩ := range_at hu
      obtain ⟨cells, p, n, l, c, b, q, rfl, hp, hn⟩ := id ho
      simp -implicitDefEqProofs
      refine ⟨ho, s, rfl, ok1.1, ok2, fun y o2 ho2 y1 y2 => ?_⟩
      obtain ⟨cells2, p2, n2, l2, c2, b2, q2, rfl, hp2, hn2⟩ := id ho2
      simp -implicitDefEqProofs
      exact ⟨by omega, _, _, zs ++ [y], ⟨rfl, rfl, by simp⟩, ho2, fun w hw => by
        rcases hw with hw | hw
        · rcases List.mem_append.mp hw with hw | hw
          · exact hz2 w (by simp [hw])
          · rw [List.mem_singleton.mp hw]
            exact ⟨y1, by omega⟩
        · exact hz2 w (by simp [hw]), by simp; omega⟩
    · rintro ρ ⟨x4, o, zs, rfl, ho, hz2, hl2⟩
      simp -implicitDefEqProofs
      exact ⟨_, _, _, zs, ⟨rfl, rfl, rfl, rfl⟩, ho, by simpa using hz2, by simp at hl2; omega⟩
  · rintro ρ ⟨x4, x9, o, zs, rfl, ho, hz2, hl2⟩
    simp -implicitDefEqProofs
    exact pl_l7_f K0 Z0 hk ys zs hz2 (by simp at hl2; omega) hl x0 x2 x3 _ x5 x6 x8 _ x11 x12 _ (.inr rfl) o ho
end Rd
end TL
namespace TL
open PySem PySem.Spec PyProof.Rows L2
theorem andB {a b : Bool} (h : (a && b) = true) : a = true ∧ b = true := Bool.and_eq_true_iff.mp h
theorem oexB_ok {K : Fr} {C : Addr} (h : oexB K C = true) : OexC K C := by
  obtain ⟨h1, h⟩ := andB h
  obtain ⟨h2, h⟩ := andB h
  obtain ⟨h3, h⟩ := andB h
  obtain ⟨h4, h5⟩ := andB h
  refine ⟨?_, He.eqO_ok h2, of_decide_eq_true h3, of_decide_eq_true h4, h5⟩
  unfold oexL at h1
  cases e : K.lookup C with
  | none => rw [e] at h1; cases h1
  | some o =>
    rw [e] at h1
    obtain ⟨oc, od, dt, sl⟩ := o
    cases oc with
    | type t =>
      cases dt with
      | cls d =>
        obtain ⟨nm, bs, mro, ns, q, hd, sn, sb, ab, col, del⟩ := d
        obtain ⟨sl⟩ := sl
        dsimp only at h1
        cases mro with
        | nil => cases h1
        | cons m0 r =>
          cases m0 with
          | ref B =>
            match sl, h1 with
            | [k0, k1, k2, k3, some (.builtin n), k5], h1 =>
              obtain ⟨a1, h1⟩ := andB h1
              obtain ⟨a2, h1⟩ := andB h1
              obtain ⟨a3, h1⟩ := andB h1
              obtain ⟨a4, h1⟩ := andB h1
              obtain ⟨a5, a6⟩ := andB h1
              have b1 := of_decide_eq_true a1
              have b2 := of_decide_eq_true a2
              have b3 := of_decide_eq_true a3
              have b4 : del = false := by
                cases del with
                | false => rfl
                | true => cases a4
              have b5 : hd = true := a5
              subst b1 b2 b3 b4 b5
              exact ⟨nm, q, ns, bs, r, sn, sb, ab, col, od, k0, k1, k2, k3, k5, rfl, a6⟩
          | _ => cases h1
      | _ => cases h1
    | _ => cases dt <;> cases h1
theorem xqB_ok {K : Fr} {D : Addr} (h : xqB K D = true) : Xq K D := by
  obtain ⟨h1, h⟩ := andB h
  obtain ⟨h2, h⟩ := andB h
  obtain ⟨h3, h⟩ := andB h
  obtain ⟨h4, h⟩ := andB h
  obtain ⟨h5, h⟩ := andB h
  obtain ⟨h6, h⟩ := andB h
  obtain ⟨h7, h⟩ := andB h
  obtain ⟨h8, h9⟩ := andB h
  exact ⟨h1, He.eqO_ok h2, He.eqO_ok h3, of_decide_eq_true h4, h5, He.eqO_ok h6, He.eqO_ok h7, of_decide_eq_true h8, of_decide_eq_true h9⟩
section
variable {K : Fr} {fs ns cs : List Str} {c n f : Str}
theorem kitC_n (h : kitC ns K c = true) (hn : n ∈ ns) : PySem.W.kitOne K (.ref (He.ga K c)) (.ref (He.ga K n)) = some (decide (c = n)) := of_decide_eq_true (List.all_eq_true.mp (andB h).1 n hn)
theorem kitC_v (h : kitC ns K c = true) : PySem.W.kitOne K (.ref (He.ga K c)) (.type "ValueError") = some true := of_decide_eq_true (andB (andB h).2).1
theorem kitC_t (h : kitC ns K c = true) : PySem.W.exmOne K (.ref (He.ga K c)) (.ref (He.ga K "Trouble")) = some true := of_decide_eq_true (andB (andB h).2).2
theorem exB_no (h : exB fs K c = true) (hf : f ∈ fs) : PySem.W.findIn K (.ref (He.ga K c)) f = some none := He.eqO_ok (List.all_eq_true.mp (andB (andB (andB (andB h).2).2).2).1 f hf)
theorem exB_oex (h : exB fs K c = true) : OexC K (He.ga K c) := oexB_ok (andB h).1
theorem exB_xq (h : exB fs K c = true) : Xq K (He.ga K c) := xqB_ok (andB (andB h).2).1
theorem exB_xf (h : exB fs K c = true) : XfC K (He.ga K c) := xfB_ok (andB (andB (andB h).2).2).1
theorem exB_ini (h : exB fs K c = true) : PySem.W.findIn K (.ref (He.ga K c)) "__init__" = some (some (.ref (He.ma K (He.ga K c) "__init__"))) ∧ PySem.W.typeIn K (.ref (He.ma K (He.ga K c) "__init__")) = some (.type "function") :=
  ⟨He.eqO_ok (andB (andB (andB (andB (andB h).2).2).2).2).1, of_decide_eq_true (andB (andB (andB (andB (andB h).2).2).2).2).2⟩
/-- the class makes exceptions with the field f -/
theorem xk_of {P : Program} {w : World} {mg : Str → Option Value} {base : Heap} {y : Str} {st : Stmt} {q : Str} {p1 p2 p3 p4 : Pos} (h : exB fs K c = true) (hf : f ∈ fs) (hm : mg c = some (.ref (He.ga K c)))
    (F : ∃ fd, FunD K "__init__" q (defArgs st) (defBody st) (defScope st) [] [] (He.ma K (He.ga K c) "__init__") fd ∧ Binds K fd ["self", y] [])
    (S : FnScope ["self", y] ["self", y] (defScope st)) (hb : defBody st = [.Assign [.Attribute (.Name "self" p1) f p2] (.Name y p3) p4])
    (hv : (defScope st).names.lookup ("self" : Str) = some .local) (hv2 : (defScope st).names.lookup y = some .local) (hd : (y == ("__debug__" : Str)) = false) (hcd : (y == ("__classdict__" : Str)) = false) : Xk P w K mg base c f := by
  obtain ⟨fd, F, B⟩ := F
  obtain ⟨i1, i2⟩ := exB_ini h
  exact ⟨hm, exB_oex h, exB_no h hf, _, fd, _, i1, i2, B, ini_ok F S hb hv hv2 hd hcd⟩
end
theorem flat1_rep {K : Fr} {t : T} {v : V} (h : flat1 t = some v) : ∀ S, Rep K S t v := by
  intro S
  cases t <;> first
    | (cases h; rfl)
    | cases h
theorem flatL_reps {K : Fr} : ∀ {ts : List T} {vs : List V}, flatL ts = some vs → ∀ S, Reps K S ts vs
  | [], vs, h, S => by cases h; rfl
  | t :: ts, vs, h, S => by
    unfold flatL at h
    cases e1 : flat1 t with
    | none => rw [e1] at h; cases h
    | some v =>
      cases e2 : flatL ts with
      | none => rw [e1, e2] at h; cases h
      | some us =>
        rw [e1, e2] at h
        cases h
        exact ⟨v, us, rfl, flat1_rep e1 S, flatL_reps e2 S⟩
theorem entB_ok {K : Fr} {t : T} {u : Value} (h : entB K t u = true) : ∃ v, RelV v u ∧ ∀ S, Rep K S t v := by
  have other : (∀ xs, t ≠ .ktp xs) → ∃ v, RelV v u ∧ ∀ S, Rep K S t v := fun hn => by
    have h2 : (match flat1 t with
      | some v => He.relB v u
      | none => false) = true := by
      unfold entB at h
      cases t <;> first
        | exact h
        | exact absurd rfl (hn _)
    cases e : flat1 t with
    | none => rw [e] at h2; cases h2
    | some v =>
      rw [e] at h2
      exact ⟨v, He.relB_ok h2, flat1_rep e⟩
  cases t with
  | ktp xs =>
    unfold entB at h
    cases u with
    | ref a =>
      dsimp only at h
      cases e : K.lookup a with
      | none => rw [e] at h; cases h
      | some o =>
        rw [e] at h
        obtain ⟨oc, od, dt, sl⟩ := o
        cases oc with
        | type c =>
          cases dt with
          | seq its n =>
            dsimp only at h
            cases ef : flatL xs with
            | none => rw [ef] at h; cases h
            | some vs =>
              rw [ef] at h
              obtain ⟨a1, h⟩ := andB h
              obtain ⟨a2, a3⟩ := andB h
              exact ⟨.ref a, rfl, fun S => ⟨a, vs, rfl, .inr ⟨_, its, n, e, congrArg Value.type (of_decide_eq_true a1), rfl, of_decide_eq_true a2, He.relAll_ok a3⟩, flatL_reps ef S⟩⟩
          | _ => cases h
        | _ => cases dt <;> cases h
    | _ => cases h
  | _ => exact other fun _ => by simp
theorem lookup_in {κ β : Type} [BEq κ] [LawfulBEq κ] : ∀ {l : List (κ × β)} {k : κ} {b : β}, l.lookup k = some b → (k, b) ∈ l
  | [], k, b, h => by cases h
  | (a, c) :: l, k, b, h => by
    rw [List.lookup_cons] at h
    cases e : (k == a) with
    | true =>
      rw [e] at h
      cases h
      rw [eq_of_beq e]
      exact List.mem_cons_self
    | false =>
      rw [e] at h
      exact List.mem_cons_of_mem _ (lookup_in h)
theorem tab_of {K : Fr} {w : World} {mg : Str → Option Value} {x : Str} {kvs : List (Str × T)} (hm : mg x = some (.ref (He.ga K x))) (hd : ∃ es n, KDict K w (He.ga K x) es n) (h : tabB kvs x K = true) : Tab K w mg x (He.ga K x) kvs := by
  refine ⟨hm, hd, fun z t hz => ?_⟩
  have h2 := List.all_eq_true.mp h _ (lookup_in hz)
  dsimp only at h2
  cases e : PySem.W.nsIn K (He.ga K x) z with
  | none => rw [e] at h2; cases h2
  | some r =>
    rw [e] at h2
    cases r with
    | none => cases h2
    | some u =>
      obtain ⟨v, h3, h4⟩ := entB_ok h2
      exact ⟨u, v, rfl, h3, h4⟩
end TL
namespace TL
open PySem PySem.Spec PyProof.Rows L2
section
variable {P : Program} {w : World} {K : PySem.W.Frag} {mg : Str → Option Value} {base : Heap} {x : Str} {st : Stmt} {N ps : List Str} {k : Nat}
theorem fnok_PT {g : GT} {fd : FuncData} (fD : FunD K x x (defArgs st) (defBody st) (defScope st) [] [] (He.ga K x) fd) (S : FnScope N ps (defScope st)) (ar : ∀ ts K0 Z0, g ts K0 Z0 → ts.length = ps.length)
    (hbody : ∀ (cdv : Value) (A : Around) (outer : List Env) (s : Shared) (H : Hp) (E : XK), Room k (cxD P w K mg base N x st cdv A outer s H E).A → Takes (cxD P w K mg base N x st cdv A outer s H E) (wD E) →
      ∃ xs, PSst (cxD P w K mg base N x st cdv A outer s H E) (wD E) (defBody st) xs ∧ ∀ ts K0 Z0, g ts K0 Z0 → xs (endP K0 Z0) (slots N.length ts)) :
    FnOk P w K mg base (L2N.CX P w) (k + 1) (He.ga K x) fd ps (spP K g.pf) := by
  refine fD.ok S (fun vs H Q E h => ?_) fun cdv A outer s H vs Q E hr h => ?_
  · obtain ⟨ts, B, Wd, os, K0, Z0, h1, ⟨rfl, h2⟩, _⟩ := sp_frz h
    have := h1.len
    simp at this
    rw [← this]
    exact ar _ _ _ h2
  · obtain ⟨xs, t, q⟩ := hbody cdv A outer s H E hr (L2N.takes_of rfl rfl rfl rfl)
    obtain ⟨ts, B, Wd, os, K0, Z0, h1, ⟨rfl, h2⟩, h3, h4⟩ := sp_frz h
    have hle : ts.length = vs.length := by have := h1.len; simpa using this
    have h5 := start_sim h1 (N.length - ts.length)
    have h6 : Sim K B Wd (slots N.length ts) (vs.map some ++ List.replicate (N.length - vs.length) none) H := by
      unfold slots
      rw [hle] at h5 ⊢
      rw [List.map_map] at h5
      exact h5
    refine ⟨_, t, B, Wd, [], [], _, _, rfl, h6, q ts K0 Z0 h2, fun ρ' σ' H' k' s' => h3 _ _ _ k' ?_, fun _ _ _ z => z.elim, fun _ _ _ z => z.elim, fun o ρ' v σ' H' k' s' => h3 _ _ _ k' ?_, fun σ' C fs ts ρ' d H' z s' => h4 C fs ts d H' z ?_⟩
    · have h7 : Sim K B Wd [] [] H' := Sim.via s' (fun i => i) (fun _ _ _ _ h => h) rfl fun i o e => by simp at e
      exact h7.push fun _ => rfl
    · refine Sim.via s' (fun i => i) (fun _ _ _ _ h => h) rfl fun i o e => ?_
      cases i with
      | zero => exact ⟨by simpa using e, fun v q => by simpa using q⟩
      | succ i => simp at e
    · refine Sim.via s' (fun i => i) (fun _ _ _ _ h => h) rfl fun i o e => ?_
      cases i with
      | zero => exact ⟨by simpa using e, fun v q => by simpa using q⟩
      | succ i => simp at e
end
/-- an exception's context, of any world -/
def CXA (P : Program) : CXT := fun outer H s E u s' => ∃ w, L2N.CX P w outer H s E u s'
theorem cxa {P : Program} {w : World} {K : PySem.W.Frag} {mg : Str → Option Value} {base : Heap} {k : Nat} {f : Addr} {fd : FuncData} {ps : List Str} {sp : Sp} (F : FnOk P w K mg base (L2N.CX P w) k f fd ps sp) : FnOk P w K mg base (CXA P) k f fd ps sp :=
  ⟨F.len, fun A outer s H args us vs Q E r e b v q => codeAny_mono (F.run A outer s H args us vs Q E r e b v q) fun r s' z => by
    cases r with
    | ok u => cases u <;> exact z
    | error e => exact ⟨w, z⟩⟩
theorem cxa_no {P : Program} {H : Hp} {s : Shared} {e : Value} {s' : Shared} (h : CXA P [] H s (fun _ _ _ => False) e s') : False := by
  obtain ⟨w, a, B, H', cls, d, _, _, _, _, _, _, _, z⟩ := h
  exact z
theorem reps_cells {K : PySem.W.Frag} {S : Hp} : ∀ ns : List Int, Reps K S (ns.map .int) (ns.map V.int)
  | [] => rfl
  | n :: ns => ⟨_, _, rfl, rfl, reps_cells ns⟩
theorem sim_script {K : PySem.W.Frag} {H : Hp} {a : Addr} {ns : List Int} (hS : SqL K H a (ns.map V.int)) : Sim K H (fun _ => none) [some (.sh (.kls (ns.map .int)))] [some (.ref a)] H := by
  refine ⟨H, fun _ => [], Same.refl _, Same.refl _, fun a o e => (by cases e), rfl, fun i o e => ?_, fun _ => List.nodup_nil, fun _ _ _ _ q => (by cases q), fun _ _ q => (by cases q), fun _ _ q => (by cases q), fun _ q => absurd rfl q, fun _ _ q => (by cases q)⟩
  cases i with
  | zero =>
    simp at e
    subst e
    exact ⟨.ref a, rfl, rfl, a, _, rfl, hS, reps_cells ns⟩
  | succ i => simp at e
/-- the law's promise at a script -/
theorem law_sp {K : PySem.W.Frag} {g : GT} {H : Hp} {a : Addr} {ns : List Int} (hS : SqL K H a (ns.map V.int)) (hg : ∀ K0 Z0, K0 (.sh (.bl true)) → g [.kls (ns.map .int)] K0 Z0) : spP K g.pf [.ref a] H (fun v _ => v = .bl true) fun _ _ _ => False := by
  refine ⟨H, fun _ => none, [.sh (.kls (ns.map .int))], fun o => o = .sh (.bl true), fun _ _ _ => False, sim_script hS, hg _ _ rfl, fun o v H' ko so => ?_, fun _ _ _ _ _ z => z.elim⟩
  subst ko
  obtain ⟨S, fp, m⟩ := so
  obtain ⟨v', e1, e2⟩ := m.own 0 _ rfl
  cases e1
  exact e2.2
end TL
namespace TL
open PySem PySem.Spec PyProof.Rows L2
namespace Rd
abbrev tstK (K : PySem.W.Frag) : Addr → Option Bool := fun C => PySem.W.exmOne K (.ref C) (.ref (He.ga K "Trouble"))
abbrev kitK (K : PySem.W.Frag) : Addr → Str → Option Bool := fun C n => PySem.W.kitOne K (.ref C) (.ref (He.ga K n))
abbrev kitVK (K : PySem.W.Frag) : Addr → Option Bool := fun C => PySem.W.kitOne K (.ref C) (.type "ValueError")
theorem flag_cls : ∀ n ∈ flagN, n ∈ clsN := by decide +kernel
theorem excok_of {K : PySem.W.Frag} {c : Str} {i : Nat} (hc : c ∈ clsN) (h : kitC clsN K c = true) (hT : ∀ k : Fin 15, decide (c = flagN[k.val]'k.isLt) = decide (k.val = i)) : ExcOk (He.ga K) (csK K clsN) (tstK K) (kitK K) (kitVK K) c i := by
  refine ⟨⟨c, hc, rfl⟩, kitC_t h, fun k n hk => ?_, kitC_v h⟩
  obtain ⟨h1, h2⟩ := List.getElem?_eq_some_iff.mp hk
  have hm : n ∈ clsN := flag_cls n (by rw [← h2]; exact List.getElem_mem _)
  subst h2
  exact (kitC_n h hm).trans (congrArg some (hT ⟨k, h1⟩))
theorem flag0 : ∀ k : Fin 15, decide (("BadText" : Str) = flagN[k.val]'k.isLt) = decide (k.val = 0) := by decide +kernel
theorem flag6 : ∀ k : Fin 15, decide (("TooDeep" : Str) = flagN[k.val]'k.isLt) = decide (k.val = 6) := by decide +kernel
theorem flag7 : ∀ k : Fin 15, decide (("TooBig" : Str) = flagN[k.val]'k.isLt) = decide (k.val = 7) := by decide +kernel
end Rd
end TL
set_option maxHeartbeats 4000000
namespace TL
open PySem PySem.Spec PyProof.Rows L2
namespace Rd
def txR (f g : Fo) : Str := ⟨(f.txt strV ++ wLe ++ g.txt strV).toArray⟩
theorem txS_ok (f : Fo) (h : f.lv lfG) : PyData.strOk (txS f) = true := by
  rw [strOk_iff]
  show ∀ c ∈ f.txt strV, c < 1114112
  induction f with
  | kind s => have h2 : lfG (.kind s) := h; exact (strOk_iff _).mp h2.1
  | var n =>
    intro c hc
    rcases List.mem_cons.mp hc with rfl | hc
    · decide
    · have hc : c ∈ (Str.ofString (toString ((n : Nat) : Int))).cps.toList := hc
      exact (strOk_iff _).mp (strOk_lit _) c hc
  | fn a b ha hb =>
    intro c hc
    simp only [Fo.txt, wFn, List.mem_cons, List.mem_append, List.not_mem_nil, or_false] at hc
    rcases hc with rfl | ((hc | rfl | rfl | rfl | rfl) | hc) | rfl <;> first | decide | exact ha h.1 c hc | exact hb h.2 c hc
  | pr a b ha hb =>
    intro c hc
    simp only [Fo.txt, wPr, List.mem_cons, List.mem_append, List.not_mem_nil, or_false] at hc
    rcases hc with rfl | ((hc | rfl | rfl | rfl) | hc) | rfl <;> first | decide | exact ha h.1 c hc | exact hb h.2 c hc
  | sel a ha =>
    intro c hc
    simp only [Fo.txt, List.mem_cons, List.mem_append, List.not_mem_nil, or_false] at hc
    rcases hc with rfl | hc | rfl <;> first | decide | exact ha h c hc
theorem tx_small {f : Fo} (h : f.ok) (hs : f.sz ≤ 250) : okT (txS f) ∧ (txS f).length ≤ 8000 := by
  have h1 := ok_lv f h
  have h2 := tx_len f h1
  have h3 : (txS f).length ≤ 8000 := by
    rw [cps_len]
    show (f.txt strV).length ≤ 8000
    omega
  exact ⟨⟨txS_ok f h1, by omega⟩, h3⟩
theorem SR_ne {L : List Nat} {a : Int} {ms : List (Nat × Nat)} (h : SR L false (.want [] 0) [] a ms) : ms ≠ [] := by
  unfold SR SR0 at h
  rw [if_pos rfl] at h
  cases e : runM numV L (.want [] 0) with
  | err k => rw [e] at h; exact h.2
  | don f z =>
    rw [e] at h
    obtain ⟨_, h2⟩ := h
    rw [h2]
    simp
theorem pl_l7_b (K0 : O → Prop) (Z0 : ZX) (hk : K0 (.sh (.bl true))) (f g : Fo) (f1 : f.ok) (f2 : f.sz ≤ 250) (g1 : g.ok) (g2 : g.sz ≤ 250) (o : O) (ho : StoreOk o) (x0 x2 x3 x4 x5 x8 x9 x10 x11 x12 : Option O) :
    l7_b g__law_store.pf g__law_letters06.pf g__law_take.pf g__law_pickW.pf g__law_made07.pf g__law_form_text.pf g__law_scan.pf g__law_same.pf g_show_row.pf g_show_form.pf g__law_spoilt.pf g__law_due07.pf g__law_told07.pf (endP K0 Z0) [x0, some o, x2, x3, x4, x5, some (.sh (.tup [f.T, g.T])), some (.lst [.sh (.str (txS f)), .sh (.str (txS g)), .sh (.str (txR f g))]), x8, x9, x10, x11, x12] := by
  have hz : sizeLine = 16777216 := rfl
  obtain ⟨a1, a2⟩ := tx_small f1 f2
  obtain ⟨b1, b2⟩ := tx_small g1 g2
  have a3 := ok_lv f f1
  have b3 := ok_lv g g1
  have c1 : PyData.strOk (txR f g) = true := by
    rw [strOk_iff]
    intro c hc
    have hc : c ∈ f.txt strV ++ wLe ++ g.txt strV := hc
    rcases List.mem_append.mp hc with hc | hc
    · rcases List.mem_append.mp hc with hc | hc
      · exact (strOk_iff _).mp a1.1 c hc
      · exact (show ∀ c ∈ wLe, c < 1114112 by decide) c hc
    · exact (strOk_iff _).mp b1.1 c hc
  have c2 : (txR f g).length ≤ 17000 := by
    have h1 : (txS f).length = (f.txt strV).length := cps_len _
    have h2 : (txS g).length = (g.txt strV).length := cps_len _
    rw [cps_len]
    show (f.txt strV ++ wLe ++ g.txt strV).length ≤ 17000
    have : wLe.length = 4 := rfl
    rw [List.length_append, List.length_append]
    omega
  have fin : ∀ (x8 x9 : Option O) (x7 : O), RowO x7 [.str (txS f), .str (txS g), .str (txR f g)] → l7_c g__law_store.pf g__law_letters06.pf g__law_take.pf g__law_pickW.pf g__law_made07.pf g__law_form_text.pf g__law_scan.pf g__law_same.pf g_show_row.pf g_show_form.pf g__law_spoilt.pf g__law_due07.pf g__law_told07.pf (endP K0 Z0) [x0, some o, x2, x3, x4, x5, some (.sh (.tup [f.T, g.T])), some x7, x8, x9, x10, x11, x12] := fun x8 x9 x7 h7 =>
    pl_l7_c K0 Z0 hk [txS f, txS g, txR f g] (fun s hs => by
      simp only [List.mem_cons, List.not_mem_nil, or_false] at hs
      rcases hs with rfl | rfl | rfl
      · exact ⟨a1, by omega⟩
      · exact ⟨b1, by omega⟩
      · exact ⟨⟨c1, by omega⟩, by omega⟩) (by simp) x0 x2 x3 x4 x5 _ x8 x9 x10 x11 x12 x7 h7 o ho
  unfold l7_b
  simp -implicitDefEqProofs
  generalize Option.map (fun o => O.sh o.t) x0 = y0
  generalize Option.map (fun o => O.sh o.t) x2 = y2
  generalize Option.map (fun o => O.sh o.t) x3 = y3
  generalize Option.map (fun o => O.sh o.t) x4 = y4
  generalize Option.map (fun o => O.sh o.t) x5 = y5
  generalize Option.map (fun o => O.sh o.t) x8 = y8
  generalize Option.map (fun o => O.sh o.t) x9 = y9
  generalize Option.map (fun o => O.sh o.t) x10 = y10
  generalize Option.map (fun o => O.sh o.t) x11 = y11
  generalize Option.map (fun o => O.sh o.t) x12 = y12
  refine lcI ?_
  simp -implicitDefEqProofs
  refine compI (fun i acc ρ => ∃ bs : List Bool, ρ = [y0, some (.sh o.t), y2, y3, y4, y5, some (.sh (.tup [f.T, g.T])), some (.sh (.lst [.str (txS f), .str (txS g), .str (txR f g)])), y8, none, y10, y11, y12] ∧ acc = (bs.map fun b => .sh (.bl b)) ∧ bs.length = i) ⟨[], rfl, rfl, rfl⟩ ?_ ?_
  · rintro i u acc ρ hu ⟨bs, rfl, rfl, hbl⟩
    obtain ⟨s, rfl, ok⟩ : ∃ s : Str, u = .str s ∧ okT s := by
      have h1 := List.mem_of_getElem? hu
      simp [cutL] at h1
      rcases h1 with rfl | rfl
      · exact ⟨_, rfl, a1⟩
      · exact ⟨_, rfl, b1⟩
    have hi2 : i < 3 := by
      have := (List.getElem?_eq_some_iff.mp hu).1
      simp [cutL] at this
      omega
    simp -implicitDefEqProofs
    refine ⟨s, false, rfl, ok, fun at' ms hS => ?_⟩
    cases ms with
    | nil => exact absurd rfl (SR_ne hS)
    | cons m r =>
      simp -implicitDefEqProofs [mT]
      exact ⟨by omega, bs ++ [decide ((m.1 : Int) < 25)], by simp, by simp [hbl]⟩
  · rintro acc ρ ⟨bs, rfl, rfl, hbl⟩
    simp -implicitDefEqProofs
    rw [bls_map bs fun b => b]
    rw [show (bs.map fun b => b) = bs from List.map_id bs]
    cases e : bs.all id with
    | true =>
      simp -implicitDefEqProofs [e]
      refine ⟨f, rfl, by omega, a3, ?_⟩
      simp -implicitDefEqProofs
      refine ⟨g, rfl, by omega, b3, ?_⟩
      simp -implicitDefEqProofs
      have l1 : (f.txt strV).length ≤ 1000000 := by have := cps_len (txS f); rw [txS_cps] at this; omega
      have l2 : (g.txt strV).length ≤ 1000000 := by have := cps_len (txS g); rw [txS_cps] at this; omega
      refine ⟨f, g, rfl, by omega, a3, by omega, b3, l1, l2, ?_⟩
      simp -implicitDefEqProofs
      have eR : txR f g = ⟨(f.txt strV ++ (wLe ++ g.txt strV)).toArray⟩ := by unfold txR; rw [List.append_assoc]
      refine ⟨.lst [.str (txS f), .str (txS g), .str (txR f g)], by rw [eR]; rfl, by simp [a1.1, b1.1, c1], by simp, ?_⟩
      simp -implicitDefEqProofs
      exact fin _ _ _ (.inl rfl)
    | false =>
      simp -implicitDefEqProofs [e]
      exact fin _ _ _ (.inl rfl)
def g_law07 : GT := fun ts K _ => ∃ cells : List Int, ts = [.kls (cells.map .int)] ∧ K (.sh (.bl true))
theorem pl_law07 (ts : List T) (K0 : O → Prop) (Z0 : ZX) (h : g_law07 ts K0 Z0) : x_law07 g__law_store.pf g__law_letters06.pf g__law_take.pf g__law_pickW.pf g__law_made07.pf g__law_form_text.pf g__law_scan.pf g__law_same.pf g_show_row.pf g_show_form.pf g__law_spoilt.pf g__law_due07.pf g__law_told07.pf (endP K0 Z0) (TL.slots 13 ts) := by
  obtain ⟨cells0, rfl, hk⟩ := h
  change l7_all _ _ _ _ _ _ _ _ _ _ _ _ _ _ _
  unfold l7_all
  simp -implicitDefEqProofs
  refine ⟨cells0, rfl, fun o1 ho1 => ?_⟩
  obtain ⟨cells1, p1, n1, l1, c1, b1, q1, rfl, hp1, hn1⟩ := id ho1
  simp -implicitDefEqProofs
  refine lcI ?_
  simp -implicitDefEqProofs
  refine compI (fun i acc ρ => ∃ (o2 x2 : O) (ns : List Str), ρ = [some (.sh (.kls (cells0.map .int))), some o2, some x2, none, none, none, none, none, none, none, none, none, none] ∧ RowO x2 [.str "", .str "0", .str "9", .str "00", .str "57"] ∧ StoreOk o2 ∧ acc = (ns.map fun s => .sh (.str s)) ∧ ns.length = i ∧ ∀ s ∈ ns, (Fo.kind s).ok) ⟨_, _, [], rfl, .inl rfl, ho1, rfl, rfl, by simp⟩ ?_ ?_
  · rintro i u acc ρ hi ⟨o2, x2, ns, rfl, h2, ho2, rfl, hnl, hns⟩
    obtain ⟨rfl, hilt⟩ := range_at hi
    obtain ⟨cells2, p2, n2, l2, c2, b2, q2, rfl, hp2, hn2⟩ := id ho2
    simp -implicitDefEqProofs
    refine ⟨ho2, 8, rfl, by decide, fun k o3 ho3 h0 h1 => ?_⟩
    obtain ⟨m, rfl⟩ : ∃ m : Nat, k = m := ⟨k.toNat, by omega⟩
    obtain ⟨cells3, p3, n3, l3, c3, b3, q3, rfl, hp3, hn3⟩ := id ho3
    simp -implicitDefEqProofs
    refine ⟨ho3, 1 + m, by simp, by omega, fun s o4 ho4 hs hls hsl => ?_⟩
    obtain ⟨cells4, p4, n4, l4, c4, b4, q4, rfl, hp4, hn4⟩ := id ho4
    simp -implicitDefEqProofs
    rw [nameE_row h2 rfl]
    simp -implicitDefEqProofs
    refine ⟨ho4, _, _, rfl, .inl (.inl rfl), by simp, by simp, fun y hy o5 ho5 => ?_⟩
    obtain ⟨t, rfl, ht⟩ : ∃ t : Str, y = .str t ∧ tailOk t := by
      simp only [List.mem_cons, List.not_mem_nil, or_false] at hy
      rcases hy with rfl | rfl | rfl | rfl | rfl <;> exact ⟨_, rfl, by decide +kernel, by decide +kernel, sOk_lit _, by decide +kernel⟩
    clear hy
    have hnk := name_ok hs hls (by omega) (by omega) ht
    have htl := ht.2.2.2
    obtain ⟨cells5, p5, n5, l5, c5, b5, q5, rfl, hp5, hn5⟩ := id ho5
    simp -implicitDefEqProofs
    have hll := hnk.1.2
    rw [app_len] at hll
    refine ⟨by omega, by omega, _, _, ⟨rfl, rfl⟩, .inr rfl, ho5, ns ++ [s ++ t], by simp, by simp [hnl], fun z hz => ?_⟩
    rcases List.mem_append.mp hz with hz | hz
    · exact hns z hz
    · rw [List.mem_singleton.mp hz]
      exact hnk
  · rintro acc ρ ⟨o2, x2, ns, rfl, h2, ho2, rfl, hnl, hns⟩
    rw [range_len] at hnl
    obtain ⟨s1, s2, s3, rfl⟩ : ∃ a b c, ns = [a, b, c] := by match ns, hnl with | [a, b, c], _ => exact ⟨a, b, c, rfl⟩
    have hx : kinds6 [.str s1, .str s2, .str s3] := fun x hx => by
      simp only [List.mem_cons, List.not_mem_nil, or_false] at hx
      rcases hx with rfl | rfl | rfl
      · exact ⟨_, rfl, hns _ (by simp)⟩
      · exact ⟨_, rfl, hns _ (by simp)⟩
      · exact ⟨_, rfl, hns _ (by simp)⟩
    obtain ⟨cells2, p2, n2, l2, c2, b2, q2, rfl, hp2, hn2⟩ := id ho2
    simp -implicitDefEqProofs
    refine ⟨ho2, _, _, rfl, .inl (.inl rfl), by simp, by simp, fun y hy o3 ho3 => ?_⟩
    obtain ⟨many, rfl, hm0, hm⟩ : ∃ many : Int, y = .int many ∧ 0 ≤ many ∧ many ≤ 10000 := by
      simp only [List.mem_cons, List.not_mem_nil, or_false] at hy
      rcases hy with rfl | rfl | rfl <;> exact ⟨_, rfl, by decide, by decide⟩
    clear hy
    obtain ⟨cells3, p3, n3, l3, c3, b3, q3, rfl, hp3, hn3⟩ := id ho3
    simp -implicitDefEqProofs
    refine ⟨ho3, _, many, rfl, hm0, hm, by simp, by simp, hx, fun f o4 ho4 f1 f2 => ?_⟩
    obtain ⟨cells4, p4, n4, l4, c4, b4, q4, rfl, hp4, hn4⟩ := id ho4
    simp -implicitDefEqProofs
    refine ⟨ho4, _, many, rfl, hm0, hm, by simp, by simp, hx, fun g o5 ho5 g1 g2 => ?_⟩
    obtain ⟨cells5, p5, n5, l5, c5, b5, q5, rfl, hp5, hn5⟩ := id ho5
    obtain ⟨a1, a2⟩ := tx_small f1 f2
    obtain ⟨b1, b2⟩ := tx_small g1 g2
    simp -implicitDefEqProofs
    generalize hq : (((sto cells2 p2 n2 l2 c2 _ q2).re (sto cells3 p3 n3 l3 c3 _ q3)).re (sto cells4 p4 n4 l4 c4 _ q4)).re (sto cells5 p5 n5 l5 c5 _ q5) = oo
    have hoo : StoreOk oo := by rw [← hq]; exact ho5
    refine lcI ?_
    simp -implicitDefEqProofs
    refine compMapF (fs := [f, g]) (tf := Fo.T) (f := fun f => .sh (.str (txS f))) rfl (by simp) ?_ ?_
    · simp -implicitDefEqProofs
      have el : (Str.ofString " <= ").length = 4 := by decide +kernel
      have ew : (Str.ofString " <= ").cps.toList = wLe := by decide +kernel
      have e : txS f ++ Str.ofString " <= " ++ txS g = txR f g := str_ext (by rw [cps_app, cps_app, ew]; rfl)
      refine ⟨by omega, by rw [app_len, el]; omega, ?_⟩
      rw [e]
      exact pl_l7_b K0 Z0 hk f g f1 f2 g1 g2 oo hoo _ _ _ _ _ _ _ _ _ _
    · intro h hh C E hE
      simp -implicitDefEqProofs
      obtain ⟨h1, h2⟩ : h.lv lfG ∧ h.sz ≤ 250 := by
        simp only [List.mem_cons, List.not_mem_nil, or_false] at hh
        rcases hh with rfl | rfl
        · exact ⟨ok_lv _ f1, f2⟩
        · exact ⟨ok_lv _ g1, g2⟩
      refine ⟨h, rfl, by omega, h1, ?_⟩
      simp -implicitDefEqProofs
      exact hE _ rfl
/-- what the law's suites ask of the three classes -/
structure Kx7 (K : PySem.W.Frag) : Prop where
  e0 : ExcOk (He.ga K) (csK K clsN) (tstK K) (kitK K) (kitVK K) "BadText" 0
  e6 : ExcOk (He.ga K) (csK K clsN) (tstK K) (kitK K) (kitVK K) "TooDeep" 6
  e7 : ExcOk (He.ga K) (csK K clsN) (tstK K) (kitK K) (kitVK K) "TooBig" 7
theorem kx7_of {K : PySem.W.Frag} (h : ∀ n ∈ (["BadText", "TooDeep", "TooBig"] : List Str), kitC clsN K n = true) : Kx7 K :=
  ⟨excok_of (by decide +kernel) (h _ (by simp)) flag0, excok_of (by decide +kernel) (h _ (by simp)) flag6, excok_of (by decide +kernel) (h _ (by simp)) flag7⟩
end Rd
end TL
set_option maxHeartbeats 4000000
namespace TL
open PySem PySem.Spec PyProof.Rows L2
namespace Rd
def top (i : Nat) : Stmt := PySem.Challenge.pw_betweenkinds_k07_form_texts.main.body.getD i (.Pass ⟨0, 0, 0, 0⟩)
abbrev f_letters_from : Stmt := top 20
abbrev f_digits_from : Stmt := top 21
abbrev f_preorder : Stmt := top 22
abbrev f_form_depth : Stmt := top 23
abbrev f_form_size : Stmt := top 24
abbrev f_show_form : Stmt := top 30
abbrev f_show_row : Stmt := top 31
abbrev f_after_sign : Stmt := top 32
abbrev f_after_name : Stmt := top 33
abbrev f_after_number : Stmt := top 34
abbrev f_middle_at : Stmt := top 35
abbrev f_leaf_at : Stmt := top 36
abbrev f_closed_at : Stmt := top 37
abbrev f_form_at : Stmt := top 38
abbrev f_ask_end : Stmt := top 39
abbrev f_ask_limits : Stmt := top 40
abbrev f_read_form : Stmt := top 41
abbrev f_read_row : Stmt := top 42
abbrev f__law_mixed : Stmt := top 44
abbrev f__law_store : Stmt := top 45
abbrev f__law_advance : Stmt := top 46
abbrev f__law_take : Stmt := top 47
abbrev f__law_pick : Stmt := top 48
abbrev f__law_amount : Stmt := top 49
abbrev f__law_letters : Stmt := top 50
abbrev f__law_leaf : Stmt := top 51
abbrev f__law_form : Stmt := top 52
abbrev f__law_deep_form : Stmt := top 53
abbrev f__law_wide_form : Stmt := top 54
abbrev f__law_kids : Stmt := top 55
abbrev f__law_preorder : Stmt := top 56
abbrev f__law_form_text : Stmt := top 57
abbrev f__law_same : Stmt := top 58
abbrev f__law_common : Stmt := top 59
abbrev f__law_leaf_end : Stmt := top 60
abbrev f__law_scan : Stmt := top 61
abbrev f__law_is_form : Stmt := top 62
abbrev f__law_due : Stmt := top 63
abbrev f__law_told : Stmt := top 64
abbrev f__law_spoilt : Stmt := top 65
abbrev f__law_made : Stmt := top 66
abbrev f_law : Stmt := top 67
structure Md (P : Program) (w : World) (K : PySem.W.Frag) (mg : Str → Option Value) (base : Heap) : Prop where
  ValueError : mg "ValueError" = none
  abs : mg "abs" = none
  all : mg "all" = none
  any : mg "any" = none
  bool : mg "bool" = none
  int : mg "int" = none
  isinstance : mg "isinstance" = none
  len : mg "len" = none
  list : mg "list" = none
  max : mg "max" = none
  range : mg "range" = none
  str : mg "str" = none
  tuple : mg "tuple" = none
  MOST_LETTERS : ∃ u, mg "MOST_LETTERS" = some u ∧ RelV (.int 8) u
  MOST_DIGITS : ∃ u, mg "MOST_DIGITS" = some u ∧ RelV (.int 2) u
  MOST_DEPTH : ∃ u, mg "MOST_DEPTH" = some u ∧ RelV (.int 24) u
  MOST_NODES : ∃ u, mg "MOST_NODES" = some u ∧ RelV (.int 100) u
  MOST_FIGURES : ∃ u, mg "MOST_FIGURES" = some u ∧ RelV (.int 4) u
  SIGNS : ∃ d, Tab K w mg "SIGNS" d kvs_SIGNS
  c_Trouble : mg "Trouble" = some (.ref (He.ga K "Trouble"))
  c_BadText : mg "BadText" = some (.ref (He.ga K "BadText"))
  k_BadText : Xk P w K mg base "BadText" "at"
  c_UnknownName : mg "UnknownName" = some (.ref (He.ga K "UnknownName"))
  k_UnknownName : Xk P w K mg base "UnknownName" "name"
  c_Twice : mg "Twice" = some (.ref (He.ga K "Twice"))
  k_Twice : Xk P w K mg base "Twice" "name"
  c_Circle : mg "Circle" = some (.ref (He.ga K "Circle"))
  c_BadRow : mg "BadRow" = some (.ref (He.ga K "BadRow"))
  k_BadRow : Xk P w K mg base "BadRow" "number"
  c_NotThere : mg "NotThere" = some (.ref (He.ga K "NotThere"))
  k_NotThere : Xk P w K mg base "NotThere" "number"
  c_TooDeep : mg "TooDeep" = some (.ref (He.ga K "TooDeep"))
  k_TooDeep : Xk P w K mg base "TooDeep" "limit"
  c_TooBig : mg "TooBig" = some (.ref (He.ga K "TooBig"))
  k_TooBig : Xk P w K mg base "TooBig" "limit"
  c_NoMeaning : mg "NoMeaning" = some (.ref (He.ga K "NoMeaning"))
  k_NoMeaning : Xk P w K mg base "NoMeaning" "name"
  c_NoSolution : mg "NoSolution" = some (.ref (He.ga K "NoSolution"))
  k_NoSolution : Xk P w K mg base "NoSolution" "word"
  c_Rough : mg "Rough" = some (.ref (He.ga K "Rough"))
  k_Rough : Xk P w K mg base "Rough" "kind"
  c_TooWide : mg "TooWide" = some (.ref (He.ga K "TooWide"))
  k_TooWide : Xk P w K mg base "TooWide" "limit"
  c_InUse : mg "InUse" = some (.ref (He.ga K "InUse"))
  k_InUse : Xk P w K mg base "InUse" "name"
  c_Stuck : mg "Stuck" = some (.ref (He.ga K "Stuck"))
  k_Stuck : Xk P w K mg base "Stuck" "node"
  c_TooLong : mg "TooLong" = some (.ref (He.ga K "TooLong"))
  k_TooLong : Xk P w K mg base "TooLong" "limit"
  xq : ∀ C, csK K clsN C → Xq K C
  xf : ∀ C, csK K clsN C → XfC K C
  xn : ∀ C, csK K clsN C → ∀ f, f ∈ fldN → PySem.W.findIn K (.ref C) f = some none
section
variable {P : Program} {w : World} {K : PySem.W.Frag} {mg : Str → Option Value} {base : Heap}
theorem sc_letters_from : FnScope ["text", "start", "end"] ["text", "start"] (defScope f_letters_from) := ⟨rfl, rfl, rfl, by decide +kernel, rfl, by decide +kernel, by decide +kernel⟩
theorem t_letters_from {k : Nat} (M : Md P w K mg base) {cdv : Value} {A : Around} {outer : List Env} {s : Shared} {H : Hp} {E : XK} (hr : Room k (cxD P w K mg base ["text", "start", "end"] "letters_from" f_letters_from cdv A outer s H E).A) (tk : Takes (cxD P w K mg base ["text", "start", "end"] "letters_from" f_letters_from cdv A outer s H E) (wD E)) :
    PSst (cxD P w K mg base ["text", "start", "end"] "letters_from" f_letters_from cdv A outer s H E) (wD E) (defBody f_letters_from) (x_letters_from) := by
  have hu : (cxD P w K mg base ["text", "start", "end"] "letters_from" f_letters_from cdv A outer s H E).A.units + 65 < cLine := by have := hr.un; omega
  have hu4 : (cxD P w K mg base ["text", "start", "end"] "letters_from" f_letters_from cdv A outer s H E).A.units + 64 < cLine := by have := hr.un; omega
  exact pss_cons (ps_set 2 sc_letters_from.nd (pe_name 1)) (pss_cons (ps_while (passes_of rfl) (PWt.pt (pw_and (pt_cmp op_lt intT_ok (pe_name 2) (pe_callB call_lenT lenT_ok rfl M.len bt_len (pa_cons (pe_name 0) (pa_nil))) (by rfl)) (pw_and (pt_cmp op_lt intT_ok (pe_bin op_sub1 subT_ok (pe_name 2) (pe_name 1)) (pe_globE (t := .int 8) rfl M.MOST_LETTERS (fun _ => rfl)) (by rfl)) (pw_and1 (pt_chain op_leS strT_ok op_leS strT_ok (pe_str) (pe_ix ix_seq ixT_ok (pe_name 0) (pe_name 2) (fun _ _ => rfl)) (pe_str)))))) (pss_one (ps_augAdd 2 sc_letters_from.nd (pe_int)))) (pss_one (ps_ret (pe_name 2))))
theorem sc_digits_from : FnScope ["text", "start", "most", "end"] ["text", "start", "most"] (defScope f_digits_from) := ⟨rfl, rfl, rfl, by decide +kernel, rfl, by decide +kernel, by decide +kernel⟩
theorem t_digits_from {k : Nat} (M : Md P w K mg base) {cdv : Value} {A : Around} {outer : List Env} {s : Shared} {H : Hp} {E : XK} (hr : Room k (cxD P w K mg base ["text", "start", "most", "end"] "digits_from" f_digits_from cdv A outer s H E).A) (tk : Takes (cxD P w K mg base ["text", "start", "most", "end"] "digits_from" f_digits_from cdv A outer s H E) (wD E)) :
    PSst (cxD P w K mg base ["text", "start", "most", "end"] "digits_from" f_digits_from cdv A outer s H E) (wD E) (defBody f_digits_from) (x_digits_from) := by
  have hu : (cxD P w K mg base ["text", "start", "most", "end"] "digits_from" f_digits_from cdv A outer s H E).A.units + 65 < cLine := by have := hr.un; omega
  have hu4 : (cxD P w K mg base ["text", "start", "most", "end"] "digits_from" f_digits_from cdv A outer s H E).A.units + 64 < cLine := by have := hr.un; omega
  exact pss_cons (ps_set 3 sc_digits_from.nd (pe_name 1)) (pss_cons (ps_while (passes_of rfl) (PWt.pt (pw_and (pt_cmp op_lt intT_ok (pe_name 3) (pe_callB call_lenT lenT_ok rfl M.len bt_len (pa_cons (pe_name 0) (pa_nil))) (by rfl)) (pw_and (pt_cmp op_lt intT_ok (pe_bin op_sub1 subT_ok (pe_name 3) (pe_name 1)) (pe_name 2) (by rfl)) (pw_and1 (pt_chain op_leS strT_ok op_leS strT_ok (pe_str) (pe_ix ix_seq ixT_ok (pe_name 0) (pe_name 3) (fun _ _ => rfl)) (pe_str)))))) (pss_one (ps_augAdd 3 sc_digits_from.nd (pe_int)))) (pss_one (ps_ret (pe_name 3))))
theorem sc_preorder : FnScope ["form", "nodes", "waiting", "node"] ["form"] (defScope f_preorder) := ⟨rfl, rfl, rfl, by decide +kernel, rfl, by decide +kernel, by decide +kernel⟩
theorem t_preorder {k : Nat} (M : Md P w K mg base) {cdv : Value} {A : Around} {outer : List Env} {s : Shared} {H : Hp} {E : XK} (hr : Room k (cxD P w K mg base ["form", "nodes", "waiting", "node"] "preorder" f_preorder cdv A outer s H E).A) (tk : Takes (cxD P w K mg base ["form", "nodes", "waiting", "node"] "preorder" f_preorder cdv A outer s H E) (wD E)) :
    PSst (cxD P w K mg base ["form", "nodes", "waiting", "node"] "preorder" f_preorder cdv A outer s H E) (wD E) (defBody f_preorder) (x_preorder) := by
  have hu : (cxD P w K mg base ["form", "nodes", "waiting", "node"] "preorder" f_preorder cdv A outer s H E).A.units + 65 < cLine := by have := hr.un; omega
  have hu4 : (cxD P w K mg base ["form", "nodes", "waiting", "node"] "preorder" f_preorder cdv A outer s H E).A.units + 64 < cLine := by have := hr.un; omega
  exact pss_cons (ps_set 1 sc_preorder.nd (pe_lst (pa_nil))) (pss_cons (ps_set 2 sc_preorder.nd (pe_lst (pa_cons (pe_name 0) (pa_nil)))) (pss_cons (ps_while (passes_of rfl) (pt_bor (pt_tru (pe_name 2))) (pss_cons (ps_set 3 sc_preorder.nd (pe_pop 2)) (pss_cons (ps_expr (pe_app 1 (pa_cons (pe_name 3) (pa_nil)))) (pss_one (ps_if (PWt.pt (pw_or (pt_cmp (op_eqD hu4) eqT_ok (pe_ix ix_seq ixT_ok (pe_name 3) (pe_int) (fun _ _ => rfl)) (pe_str) (by rfl)) (pw_or1 (pt_cmp (op_eqD hu4) eqT_ok (pe_ix ix_seq ixT_ok (pe_name 3) (pe_int) (fun _ _ => rfl)) (pe_str) (by rfl))))) (pss_cons (ps_expr (pe_app 2 (pa_cons (pe_ix ix_seq ixT_ok (pe_name 3) (pe_int) (fun _ _ => rfl)) (pa_nil)))) (pss_one (ps_expr (pe_app 2 (pa_cons (pe_ix ix_seq ixT_ok (pe_name 3) (pe_int) (fun _ _ => rfl)) (pa_nil)))))) (pss_one (ps_if (pt_cmp (op_eqD hu4) eqT_ok (pe_ix ix_seq ixT_ok (pe_name 3) (pe_int) (fun _ _ => rfl)) (pe_str) (by rfl)) (pss_one (ps_expr (pe_app 2 (pa_cons (pe_ix ix_seq ixT_ok (pe_name 3) (pe_int) (fun _ _ => rfl)) (pa_nil))))) (pss_nil)))))))) (pss_one (ps_ret (pe_mov 1)))))
theorem sc_form_depth : FnScope ["form", "greatest", "waiting", "node", "depth"] ["form"] (defScope f_form_depth) := ⟨rfl, rfl, rfl, by decide +kernel, rfl, by decide +kernel, by decide +kernel⟩
theorem t_form_depth {k : Nat} (M : Md P w K mg base) {cdv : Value} {A : Around} {outer : List Env} {s : Shared} {H : Hp} {E : XK} (hr : Room k (cxD P w K mg base ["form", "greatest", "waiting", "node", "depth"] "form_depth" f_form_depth cdv A outer s H E).A) (tk : Takes (cxD P w K mg base ["form", "greatest", "waiting", "node", "depth"] "form_depth" f_form_depth cdv A outer s H E) (wD E)) :
    PSst (cxD P w K mg base ["form", "greatest", "waiting", "node", "depth"] "form_depth" f_form_depth cdv A outer s H E) (wD E) (defBody f_form_depth) (x_form_depth) := by
  have hu : (cxD P w K mg base ["form", "greatest", "waiting", "node", "depth"] "form_depth" f_form_depth cdv A outer s H E).A.units + 65 < cLine := by have := hr.un; omega
  have hu4 : (cxD P w K mg base ["form", "greatest", "waiting", "node", "depth"] "form_depth" f_form_depth cdv A outer s H E).A.units + 64 < cLine := by have := hr.un; omega
  exact pss_cons (ps_set 1 sc_form_depth.nd (pe_int)) (pss_cons (ps_set 2 sc_form_depth.nd (pe_lst (pa_cons (pe_tup (pa_cons (pe_name 0) (pa_cons (pe_int) (pa_nil)))) (pa_nil)))) (pss_cons (ps_while (passes_of rfl) (pt_bor (pt_tru (pe_name 2))) (pss_cons (ps_asg (pe_pop 2) (pg_tup rfl (pgs_cons (pg_name 3 sc_form_depth.nd) (pgs_cons (pg_name 4 sc_form_depth.nd) (pgs_nil))))) (pss_cons (ps_if (pt_cmp op_gt intT_ok (pe_name 4) (pe_name 1) (by rfl)) (pss_one (ps_set 1 sc_form_depth.nd (pe_name 4))) (pss_nil)) (pss_one (ps_if (PWt.pt (pw_or (pt_cmp (op_eqD hu4) eqT_ok (pe_ix ix_seq ixT_ok (pe_name 3) (pe_int) (fun _ _ => rfl)) (pe_str) (by rfl)) (pw_or1 (pt_cmp (op_eqD hu4) eqT_ok (pe_ix ix_seq ixT_ok (pe_name 3) (pe_int) (fun _ _ => rfl)) (pe_str) (by rfl))))) (pss_cons (ps_expr (pe_app 2 (pa_cons (pe_tup (pa_cons (pe_ix ix_seq ixT_ok (pe_name 3) (pe_int) (fun _ _ => rfl)) (pa_cons (pe_bin op_addT addT_ok (pe_name 4) (pe_int)) (pa_nil)))) (pa_nil)))) (pss_one (ps_expr (pe_app 2 (pa_cons (pe_tup (pa_cons (pe_ix ix_seq ixT_ok (pe_name 3) (pe_int) (fun _ _ => rfl)) (pa_cons (pe_bin op_addT addT_ok (pe_name 4) (pe_int)) (pa_nil)))) (pa_nil)))))) (pss_one (ps_if (pt_cmp (op_eqD hu4) eqT_ok (pe_ix ix_seq ixT_ok (pe_name 3) (pe_int) (fun _ _ => rfl)) (pe_str) (by rfl)) (pss_one (ps_expr (pe_app 2 (pa_cons (pe_tup (pa_cons (pe_ix ix_seq ixT_ok (pe_name 3) (pe_int) (fun _ _ => rfl)) (pa_cons (pe_bin op_addT addT_ok (pe_name 4) (pe_int)) (pa_nil)))) (pa_nil))))) (pss_nil)))))))) (pss_one (ps_ret (pe_name 1)))))
theorem sc_form_size : FnScope ["form"] ["form"] (defScope f_form_size) := ⟨rfl, rfl, rfl, by decide +kernel, rfl, by decide +kernel, by decide +kernel⟩
theorem t_form_size {k : Nat} (M : Md P w K mg base) {k_preorder : Nat} {g_preorder : PF} (F_preorder : Fn1 P w K mg base k_preorder "preorder" ["form"] (spP K g_preorder)) (hk_preorder : k_preorder ≤ k) {cdv : Value} {A : Around} {outer : List Env} {s : Shared} {H : Hp} {E : XK} (hr : Room k (cxD P w K mg base ["form"] "form_size" f_form_size cdv A outer s H E).A) (tk : Takes (cxD P w K mg base ["form"] "form_size" f_form_size cdv A outer s H E) (wD E)) :
    PSst (cxD P w K mg base ["form"] "form_size" f_form_size cdv A outer s H E) (wD E) (defBody f_form_size) (x_form_size g_preorder) := by
  have hu : (cxD P w K mg base ["form"] "form_size" f_form_size cdv A outer s H E).A.units + 65 < cLine := by have := hr.un; omega
  have hu4 : (cxD P w K mg base ["form"] "form_size" f_form_size cdv A outer s H E).A.units + 64 < cLine := by have := hr.un; omega
  exact pss_one (ps_ret (pe_callB call_lenT lenT_ok rfl M.len bt_len (pa_cons (pe_call F_preorder (hr.mono hk_preorder) tk rfl (pa_cons (pe_name 0) (pa_nil))) (pa_nil))))
theorem sc_show_form : FnScope ["form", "pieces", "waiting", "item"] ["form"] (defScope f_show_form) := ⟨rfl, rfl, rfl, by decide +kernel, rfl, by decide +kernel, by decide +kernel⟩
theorem t_show_form {k : Nat} (M : Md P w K mg base) {cdv : Value} {A : Around} {outer : List Env} {s : Shared} {H : Hp} {E : XK} (hr : Room k (cxD P w K mg base ["form", "pieces", "waiting", "item"] "show_form" f_show_form cdv A outer s H E).A) (tk : Takes (cxD P w K mg base ["form", "pieces", "waiting", "item"] "show_form" f_show_form cdv A outer s H E) (wD E)) :
    PSst (cxD P w K mg base ["form", "pieces", "waiting", "item"] "show_form" f_show_form cdv A outer s H E) (wD E) (defBody f_show_form) (x_show_form) := by
  have hu : (cxD P w K mg base ["form", "pieces", "waiting", "item"] "show_form" f_show_form cdv A outer s H E).A.units + 65 < cLine := by have := hr.un; omega
  have hu4 : (cxD P w K mg base ["form", "pieces", "waiting", "item"] "show_form" f_show_form cdv A outer s H E).A.units + 64 < cLine := by have := hr.un; omega
  exact pss_cons (ps_set 1 sc_show_form.nd (pe_lst (pa_nil))) (pss_cons (ps_set 2 sc_show_form.nd (pe_lst (pa_cons (pe_name 0) (pa_nil)))) (pss_cons (ps_while (passes_of rfl) (pt_bor (pt_tru (pe_name 2))) (pss_cons (ps_set 3 sc_show_form.nd (pe_pop 2)) (pss_one (ps_if (pt_tru (pe_isi (c := .str) rfl M.isinstance rfl M.str bt_str (pe_name 3))) (pss_one (ps_expr (pe_app 1 (pa_cons (pe_name 3) (pa_nil))))) (pss_one (ps_if (pt_cmp (op_eqD hu4) eqT_ok (pe_ix ix_seq ixT_ok (pe_name 3) (pe_int) (fun _ _ => rfl)) (pe_str) (by rfl)) (pss_one (ps_expr (pe_app 1 (pa_cons (pe_ix ix_seq ixT_ok (pe_name 3) (pe_int) (fun _ _ => rfl)) (pa_nil))))) (pss_one (ps_if (pt_cmp (op_eqD hu4) eqT_ok (pe_ix ix_seq ixT_ok (pe_name 3) (pe_int) (fun _ _ => rfl)) (pe_str) (by rfl)) (pss_one (ps_expr (pe_app 1 (pa_cons (pe_joinedT (pj_cons (pe_str) (pj_cons (pe_fmtT (pe_ix ix_seq ixT_ok (pe_name 3) (pe_int) (fun _ _ => rfl))) (pj_nil)))) (pa_nil))))) (pss_one (ps_if (pt_cmp (op_eqD hu4) eqT_ok (pe_ix ix_seq ixT_ok (pe_name 3) (pe_int) (fun _ _ => rfl)) (pe_str) (by rfl)) (pss_one (ps_expr (pe_ext 2 (pa_cons (pe_lst (pa_cons (pe_str) (pa_cons (pe_ix ix_seq ixT_ok (pe_name 3) (pe_int) (fun _ _ => rfl)) (pa_cons (pe_str) (pa_nil))))) (pa_nil))))) (pss_one (ps_expr (pe_ext 2 (pa_cons (pe_lst (pa_cons (pe_str) (pa_cons (pe_ix ix_seq ixT_ok (pe_name 3) (pe_int) (fun _ _ => rfl)) (pa_cons (pe_tab M.SIGNS rfl (pe_ix ix_seq ixT_ok (pe_name 3) (pe_int) (fun _ _ => rfl)) (fun _ _ => rfl)) (pa_cons (pe_ix ix_seq ixT_ok (pe_name 3) (pe_int) (fun _ _ => rfl)) (pa_cons (pe_str) (pa_nil))))))) (pa_nil))))))))))))))) (pss_one (ps_ret (pe_joinT (pe_str) (pe_name 1))))))
theorem sc_show_row : FnScope ["row", "left", "right"] ["row"] (defScope f_show_row) := ⟨rfl, rfl, rfl, by decide +kernel, rfl, by decide +kernel, by decide +kernel⟩
theorem t_show_row {k : Nat} (M : Md P w K mg base) {k_show_form : Nat} {g_show_form : PF} (F_show_form : Fn1 P w K mg base k_show_form "show_form" ["form"] (spP K g_show_form)) (hk_show_form : k_show_form ≤ k) {cdv : Value} {A : Around} {outer : List Env} {s : Shared} {H : Hp} {E : XK} (hr : Room k (cxD P w K mg base ["row", "left", "right"] "show_row" f_show_row cdv A outer s H E).A) (tk : Takes (cxD P w K mg base ["row", "left", "right"] "show_row" f_show_row cdv A outer s H E) (wD E)) :
    PSst (cxD P w K mg base ["row", "left", "right"] "show_row" f_show_row cdv A outer s H E) (wD E) (defBody f_show_row) (x_show_row g_show_form) := by
  have hu : (cxD P w K mg base ["row", "left", "right"] "show_row" f_show_row cdv A outer s H E).A.units + 65 < cLine := by have := hr.un; omega
  have hu4 : (cxD P w K mg base ["row", "left", "right"] "show_row" f_show_row cdv A outer s H E).A.units + 64 < cLine := by have := hr.un; omega
  exact pss_cons (ps_asg (pe_name 0) (pg_tup rfl (pgs_cons (pg_name 1 sc_show_row.nd) (pgs_cons (pg_name 2 sc_show_row.nd) (pgs_nil))))) (pss_one (ps_ret (pe_joinedT (pj_cons (pe_fmtT (pe_call F_show_form (hr.mono hk_show_form) tk rfl (pa_cons (pe_name 1) (pa_nil)))) (pj_cons (pe_str) (pj_cons (pe_fmtT (pe_call F_show_form (hr.mono hk_show_form) tk rfl (pa_cons (pe_name 2) (pa_nil)))) (pj_nil)))))))
theorem sc_after_sign : FnScope ["text", "at", "sign", "end", "letter"] ["text", "at", "sign"] (defScope f_after_sign) := ⟨rfl, rfl, rfl, by decide +kernel, rfl, by decide +kernel, by decide +kernel⟩
theorem t_after_sign {k : Nat} (M : Md P w K mg base) (h2k : 2 ≤ k) {cdv : Value} {A : Around} {outer : List Env} {s : Shared} {H : Hp} {E : XK} (hr : Room k (cxD P w K mg base ["text", "at", "sign", "end", "letter"] "after_sign" f_after_sign cdv A outer s H E).A) (tk : Takes (cxD P w K mg base ["text", "at", "sign", "end", "letter"] "after_sign" f_after_sign cdv A outer s H E) (wD E)) :
    PSst (cxD P w K mg base ["text", "at", "sign", "end", "letter"] "after_sign" f_after_sign cdv A outer s H E) (wD E) (defBody f_after_sign) (x_after_sign (He.ga K)) := by
  have hu : (cxD P w K mg base ["text", "at", "sign", "end", "letter"] "after_sign" f_after_sign cdv A outer s H E).A.units + 65 < cLine := by have := hr.un; omega
  have hu4 : (cxD P w K mg base ["text", "at", "sign", "end", "letter"] "after_sign" f_after_sign cdv A outer s H E).A.units + 64 < cLine := by have := hr.un; omega
  exact pss_cons (ps_set 3 sc_after_sign.nd (pe_name 1)) (pss_cons (ps_for (passes_of rfl) rfl (pi_seq (pe_name 2)) (pg_name 4 sc_after_sign.nd) (pss_cons (ps_if (PWt.pt (pw_or (pt_cmp (op_eqD hu4) eqT_ok (pe_name 3) (pe_callB call_lenT lenT_ok rfl M.len bt_len (pa_cons (pe_name 0) (pa_nil))) (by rfl)) (pw_or1 (pt_cmp (op_neD hu4) neT_ok (pe_ix ix_seq ixT_ok (pe_name 0) (pe_name 3) (fun _ _ => rfl)) (pe_name 4) (by rfl))))) (pss_one (ps_raise1 M.k_BadText tk (hr.mono h2k) rfl (pa_cons (pe_name 3) (pa_nil)))) (pss_nil)) (pss_one (ps_augAdd 3 sc_after_sign.nd (pe_int))))) (pss_one (ps_ret (pe_name 3))))
theorem sc_after_name : FnScope ["text", "at", "letters"] ["text", "at"] (defScope f_after_name) := ⟨rfl, rfl, rfl, by decide +kernel, rfl, by decide +kernel, by decide +kernel⟩
theorem t_after_name {k : Nat} (M : Md P w K mg base) (h2k : 2 ≤ k) {k_letters_from : Nat} {g_letters_from : PF} (F_letters_from : Fn1 P w K mg base k_letters_from "letters_from" ["text", "start"] (spP K g_letters_from)) (hk_letters_from : k_letters_from ≤ k) {k_digits_from : Nat} {g_digits_from : PF} (F_digits_from : Fn1 P w K mg base k_digits_from "digits_from" ["text", "start", "most"] (spP K g_digits_from)) (hk_digits_from : k_digits_from ≤ k) {cdv : Value} {A : Around} {outer : List Env} {s : Shared} {H : Hp} {E : XK} (hr : Room k (cxD P w K mg base ["text", "at", "letters"] "after_name" f_after_name cdv A outer s H E).A) (tk : Takes (cxD P w K mg base ["text", "at", "letters"] "after_name" f_after_name cdv A outer s H E) (wD E)) :
    PSst (cxD P w K mg base ["text", "at", "letters"] "after_name" f_after_name cdv A outer s H E) (wD E) (defBody f_after_name) (x_after_name g_letters_from g_digits_from (He.ga K)) := by
  have hu : (cxD P w K mg base ["text", "at", "letters"] "after_name" f_after_name cdv A outer s H E).A.units + 65 < cLine := by have := hr.un; omega
  have hu4 : (cxD P w K mg base ["text", "at", "letters"] "after_name" f_after_name cdv A outer s H E).A.units + 64 < cLine := by have := hr.un; omega
  exact pss_cons (ps_set 2 sc_after_name.nd (pe_call F_letters_from (hr.mono hk_letters_from) tk rfl (pa_cons (pe_name 0) (pa_cons (pe_name 1) (pa_nil))))) (pss_cons (ps_if (pt_cmp (op_eqD hu4) eqT_ok (pe_name 2) (pe_name 1) (by rfl)) (pss_one (ps_raise1 M.k_BadText tk (hr.mono h2k) rfl (pa_cons (pe_name 1) (pa_nil)))) (pss_nil)) (pss_one (ps_ret (pe_call F_digits_from (hr.mono hk_digits_from) tk rfl (pa_cons (pe_name 0) (pa_cons (pe_name 2) (pa_cons (pe_globE (t := .int 2) rfl M.MOST_DIGITS (fun _ => rfl)) (pa_nil))))))))
theorem sc_after_number : FnScope ["text", "at", "end"] ["text", "at"] (defScope f_after_number) := ⟨rfl, rfl, rfl, by decide +kernel, rfl, by decide +kernel, by decide +kernel⟩
theorem t_after_number {k : Nat} (M : Md P w K mg base) (h2k : 2 ≤ k) {k_digits_from : Nat} {g_digits_from : PF} (F_digits_from : Fn1 P w K mg base k_digits_from "digits_from" ["text", "start", "most"] (spP K g_digits_from)) (hk_digits_from : k_digits_from ≤ k) {cdv : Value} {A : Around} {outer : List Env} {s : Shared} {H : Hp} {E : XK} (hr : Room k (cxD P w K mg base ["text", "at", "end"] "after_number" f_after_number cdv A outer s H E).A) (tk : Takes (cxD P w K mg base ["text", "at", "end"] "after_number" f_after_number cdv A outer s H E) (wD E)) :
    PSst (cxD P w K mg base ["text", "at", "end"] "after_number" f_after_number cdv A outer s H E) (wD E) (defBody f_after_number) (x_after_number g_digits_from (He.ga K)) := by
  have hu : (cxD P w K mg base ["text", "at", "end"] "after_number" f_after_number cdv A outer s H E).A.units + 65 < cLine := by have := hr.un; omega
  have hu4 : (cxD P w K mg base ["text", "at", "end"] "after_number" f_after_number cdv A outer s H E).A.units + 64 < cLine := by have := hr.un; omega
  exact pss_cons (ps_set 2 sc_after_number.nd (pe_call F_digits_from (hr.mono hk_digits_from) tk rfl (pa_cons (pe_name 0) (pa_cons (pe_name 1) (pa_cons (pe_globE (t := .int 4) rfl M.MOST_FIGURES (fun _ => rfl)) (pa_nil)))))) (pss_cons (ps_if (pt_cmp (op_eqD hu4) eqT_ok (pe_name 2) (pe_name 1) (by rfl)) (pss_one (ps_raise1 M.k_BadText tk (hr.mono h2k) rfl (pa_cons (pe_name 1) (pa_nil)))) (pss_nil)) (pss_cons (ps_if (pt_cmp (op_eqD hu4) eqT_ok (pe_ix ix_seq ixT_ok (pe_name 0) (pe_name 1) (fun _ _ => rfl)) (pe_str) (by rfl)) (pss_one (ps_ret (pe_bin op_addT addT_ok (pe_name 1) (pe_int)))) (pss_nil)) (pss_one (ps_ret (pe_name 2)))))
theorem sc_middle_at : FnScope ["text", "at", "start"] ["text", "at"] (defScope f_middle_at) := ⟨rfl, rfl, rfl, by decide +kernel, rfl, by decide +kernel, by decide +kernel⟩
theorem t_middle_at {k : Nat} (M : Md P w K mg base) {k_after_sign : Nat} {g_after_sign : PF} (F_after_sign : Fn1 P w K mg base k_after_sign "after_sign" ["text", "at", "sign"] (spP K g_after_sign)) (hk_after_sign : k_after_sign ≤ k) {cdv : Value} {A : Around} {outer : List Env} {s : Shared} {H : Hp} {E : XK} (hr : Room k (cxD P w K mg base ["text", "at", "start"] "middle_at" f_middle_at cdv A outer s H E).A) (tk : Takes (cxD P w K mg base ["text", "at", "start"] "middle_at" f_middle_at cdv A outer s H E) (wD E)) :
    PSst (cxD P w K mg base ["text", "at", "start"] "middle_at" f_middle_at cdv A outer s H E) (wD E) (defBody f_middle_at) (x_middle_at g_after_sign) := by
  have hu : (cxD P w K mg base ["text", "at", "start"] "middle_at" f_middle_at cdv A outer s H E).A.units + 65 < cLine := by have := hr.un; omega
  have hu4 : (cxD P w K mg base ["text", "at", "start"] "middle_at" f_middle_at cdv A outer s H E).A.units + 64 < cLine := by have := hr.un; omega
  exact pss_cons (ps_set 2 sc_middle_at.nd (pe_call F_after_sign (hr.mono hk_after_sign) tk rfl (pa_cons (pe_name 0) (pa_cons (pe_name 1) (pa_cons (pe_str) (pa_nil)))))) (pss_cons (ps_if (pt_cmp (op_eqD hu4) eqT_ok (pe_slice (pe_name 0) (po_some (pe_name 2)) (po_some (pe_bin op_addT addT_ok (pe_name 2) (pe_int)))) (pe_str) (by rfl)) (pss_one (ps_ret (pe_tup (pa_cons (pe_str) (pa_cons (pe_call F_after_sign (hr.mono hk_after_sign) tk rfl (pa_cons (pe_name 0) (pa_cons (pe_name 2) (pa_cons (pe_str) (pa_nil))))) (pa_nil)))))) (pss_nil)) (pss_one (ps_ret (pe_tup (pa_cons (pe_str) (pa_cons (pe_call F_after_sign (hr.mono hk_after_sign) tk rfl (pa_cons (pe_name 0) (pa_cons (pe_name 2) (pa_cons (pe_str) (pa_nil))))) (pa_nil)))))))
theorem sc_leaf_at : FnScope ["text", "at", "end"] ["text", "at"] (defScope f_leaf_at) := ⟨rfl, rfl, rfl, by decide +kernel, rfl, by decide +kernel, by decide +kernel⟩
theorem t_leaf_at {k : Nat} (M : Md P w K mg base) {k_after_number : Nat} {g_after_number : PF} (F_after_number : Fn1 P w K mg base k_after_number "after_number" ["text", "at"] (spP K g_after_number)) (hk_after_number : k_after_number ≤ k) {k_after_name : Nat} {g_after_name : PF} (F_after_name : Fn1 P w K mg base k_after_name "after_name" ["text", "at"] (spP K g_after_name)) (hk_after_name : k_after_name ≤ k) {cdv : Value} {A : Around} {outer : List Env} {s : Shared} {H : Hp} {E : XK} (hr : Room k (cxD P w K mg base ["text", "at", "end"] "leaf_at" f_leaf_at cdv A outer s H E).A) (tk : Takes (cxD P w K mg base ["text", "at", "end"] "leaf_at" f_leaf_at cdv A outer s H E) (wD E)) :
    PSst (cxD P w K mg base ["text", "at", "end"] "leaf_at" f_leaf_at cdv A outer s H E) (wD E) (defBody f_leaf_at) (x_leaf_at g_after_number g_after_name) := by
  have hu : (cxD P w K mg base ["text", "at", "end"] "leaf_at" f_leaf_at cdv A outer s H E).A.units + 65 < cLine := by have := hr.un; omega
  have hu4 : (cxD P w K mg base ["text", "at", "end"] "leaf_at" f_leaf_at cdv A outer s H E).A.units + 64 < cLine := by have := hr.un; omega
  exact pss_cons (ps_if (pt_cmp (op_eqD hu4) eqT_ok (pe_slice (pe_name 0) (po_some (pe_name 1)) (po_some (pe_bin op_addT addT_ok (pe_name 1) (pe_int)))) (pe_str) (by rfl)) (pss_cons (ps_set 2 sc_leaf_at.nd (pe_call F_after_number (hr.mono hk_after_number) tk rfl (pa_cons (pe_name 0) (pa_cons (pe_bin op_addT addT_ok (pe_name 1) (pe_int)) (pa_nil))))) (pss_one (ps_ret (pe_tup (pa_cons (pe_tup (pa_cons (pe_str) (pa_cons (pe_callTy L2.call_int_str intST_ok rfl M.int bt_int (pa_cons (pe_slice (pe_name 0) (po_some (pe_bin op_addT addT_ok (pe_name 1) (pe_int))) (po_some (pe_name 2))) (pa_nil))) (pa_nil)))) (pa_cons (pe_name 2) (pa_nil))))))) (pss_nil)) (pss_cons (ps_set 2 sc_leaf_at.nd (pe_call F_after_name (hr.mono hk_after_name) tk rfl (pa_cons (pe_name 0) (pa_cons (pe_name 1) (pa_nil))))) (pss_one (ps_ret (pe_tup (pa_cons (pe_tup (pa_cons (pe_str) (pa_cons (pe_slice (pe_name 0) (po_some (pe_name 1)) (po_some (pe_name 2))) (pa_nil)))) (pa_cons (pe_name 2) (pa_nil)))))))
theorem sc_closed_at : FnScope ["text", "at", "entry", "form"] ["text", "at", "entry", "form"] (defScope f_closed_at) := ⟨rfl, rfl, rfl, by decide +kernel, rfl, by decide +kernel, by decide +kernel⟩
theorem t_closed_at {k : Nat} (M : Md P w K mg base) {k_after_sign : Nat} {g_after_sign : PF} (F_after_sign : Fn1 P w K mg base k_after_sign "after_sign" ["text", "at", "sign"] (spP K g_after_sign)) (hk_after_sign : k_after_sign ≤ k) {cdv : Value} {A : Around} {outer : List Env} {s : Shared} {H : Hp} {E : XK} (hr : Room k (cxD P w K mg base ["text", "at", "entry", "form"] "closed_at" f_closed_at cdv A outer s H E).A) (tk : Takes (cxD P w K mg base ["text", "at", "entry", "form"] "closed_at" f_closed_at cdv A outer s H E) (wD E)) :
    PSst (cxD P w K mg base ["text", "at", "entry", "form"] "closed_at" f_closed_at cdv A outer s H E) (wD E) (defBody f_closed_at) (x_closed_at g_after_sign) := by
  have hu : (cxD P w K mg base ["text", "at", "entry", "form"] "closed_at" f_closed_at cdv A outer s H E).A.units + 65 < cLine := by have := hr.un; omega
  have hu4 : (cxD P w K mg base ["text", "at", "entry", "form"] "closed_at" f_closed_at cdv A outer s H E).A.units + 64 < cLine := by have := hr.un; omega
  exact pss_cons (ps_if (pt_cmp (op_eqD hu4) eqT_ok (pe_callB call_lenT lenT_ok rfl M.len bt_len (pa_cons (pe_name 2) (pa_nil))) (pe_int) (by rfl)) (pss_one (ps_ret (pe_tup (pa_cons (pe_tup (pa_cons (pe_str) (pa_cons (pe_name 3) (pa_nil)))) (pa_cons (pe_call F_after_sign (hr.mono hk_after_sign) tk rfl (pa_cons (pe_name 0) (pa_cons (pe_name 1) (pa_cons (pe_str) (pa_nil))))) (pa_nil)))))) (pss_nil)) (pss_one (ps_ret (pe_tup (pa_cons (pe_tup (pa_cons (pe_ix ix_seq ixT_ok (pe_name 2) (pe_int) (fun _ _ => rfl)) (pa_cons (pe_ix ix_seq ixT_ok (pe_name 2) (pe_int) (fun _ _ => rfl)) (pa_cons (pe_name 3) (pa_nil))))) (pa_cons (pe_call F_after_sign (hr.mono hk_after_sign) tk rfl (pa_cons (pe_name 0) (pa_cons (pe_name 1) (pa_cons (pe_str) (pa_nil))))) (pa_nil))))))
theorem sc_form_at : FnScope ["text", "at", "pending", "sign", "form", "head"] ["text", "at"] (defScope f_form_at) := ⟨rfl, rfl, rfl, by decide +kernel, rfl, by decide +kernel, by decide +kernel⟩
theorem t_form_at {k : Nat} (M : Md P w K mg base) {k_leaf_at : Nat} {g_leaf_at : PF} (F_leaf_at : Fn1 P w K mg base k_leaf_at "leaf_at" ["text", "at"] (spP K g_leaf_at)) (hk_leaf_at : k_leaf_at ≤ k) {k_closed_at : Nat} {g_closed_at : PF} (F_closed_at : Fn1 P w K mg base k_closed_at "closed_at" ["text", "at", "entry", "form"] (spP K g_closed_at)) (hk_closed_at : k_closed_at ≤ k) {k_middle_at : Nat} {g_middle_at : PF} (F_middle_at : Fn1 P w K mg base k_middle_at "middle_at" ["text", "at"] (spP K g_middle_at)) (hk_middle_at : k_middle_at ≤ k) {cdv : Value} {A : Around} {outer : List Env} {s : Shared} {H : Hp} {E : XK} (hr : Room k (cxD P w K mg base ["text", "at", "pending", "sign", "form", "head"] "form_at" f_form_at cdv A outer s H E).A) (tk : Takes (cxD P w K mg base ["text", "at", "pending", "sign", "form", "head"] "form_at" f_form_at cdv A outer s H E) (wD E)) :
    PSst (cxD P w K mg base ["text", "at", "pending", "sign", "form", "head"] "form_at" f_form_at cdv A outer s H E) (wD E) (defBody f_form_at) (x_form_at g_leaf_at g_closed_at g_middle_at) := by
  have hu : (cxD P w K mg base ["text", "at", "pending", "sign", "form", "head"] "form_at" f_form_at cdv A outer s H E).A.units + 65 < cLine := by have := hr.un; omega
  have hu4 : (cxD P w K mg base ["text", "at", "pending", "sign", "form", "head"] "form_at" f_form_at cdv A outer s H E).A.units + 64 < cLine := by have := hr.un; omega
  exact pss_cons (ps_set 2 sc_form_at.nd (pe_lst (pa_nil))) (pss_one (ps_while (passes_of rfl) (pt_tru (pe_bl)) (pss_cons (ps_set 3 sc_form_at.nd (pe_slice (pe_name 0) (po_some (pe_name 1)) (po_some (pe_bin op_addT addT_ok (pe_name 1) (pe_int))))) (pss_cons (ps_if (PWt.pt (pw_or (pt_cmp (op_eqD hu4) eqT_ok (pe_name 3) (pe_str) (by rfl)) (pw_or1 (pt_cmp (op_eqD hu4) eqT_ok (pe_name 3) (pe_str) (by rfl))))) (pss_cons (ps_expr (pe_app 2 (pa_cons (pe_ifExp (pt_cmp (op_eqD hu4) eqT_ok (pe_name 3) (pe_str) (by rfl)) (pe_tup (pa_cons (pe_str) (pa_nil))) (pe_tup (pa_cons (pe_str) (pa_nil)))) (pa_nil)))) (pss_cons (ps_set 1 sc_form_at.nd (pe_bin op_addT addT_ok (pe_name 1) (pe_int))) (pss_one (ps_continue)))) (pss_nil)) (pss_cons (ps_asg (pe_call F_leaf_at (hr.mono hk_leaf_at) tk rfl (pa_cons (pe_name 0) (pa_cons (pe_name 1) (pa_nil)))) (pg_tup rfl (pgs_cons (pg_name 4 sc_form_at.nd) (pgs_cons (pg_name 1 sc_form_at.nd) (pgs_nil))))) (pss_cons (ps_while (passes_of rfl) (pt_bor (PWt.pt (pw_and (pt_tru (pe_name 2)) (pw_and1 (pt_cmp (op_neH hu4) neHT_ok (pe_ix ix_seq ixT_ok (pe_name 2) (pe_neg (pe_int)) (fun _ _ => rfl)) (pe_tup (pa_cons (pe_str) (pa_nil))) (by rfl)))))) (pss_one (ps_asg (pe_call F_closed_at (hr.mono hk_closed_at) tk rfl (pa_cons (pe_name 0) (pa_cons (pe_name 1) (pa_cons (pe_pop 2) (pa_cons (pe_name 4) (pa_nil)))))) (pg_tup rfl (pgs_cons (pg_name 4 sc_form_at.nd) (pgs_cons (pg_name 1 sc_form_at.nd) (pgs_nil))))))) (pss_cons (ps_if (pt_bor (pt_not (pt_tru (pe_name 2)))) (pss_one (ps_ret (pe_tup (pa_cons (pe_name 4) (pa_cons (pe_name 1) (pa_nil)))))) (pss_nil)) (pss_cons (ps_expr (pe_pop 2)) (pss_cons (ps_asg (pe_call F_middle_at (hr.mono hk_middle_at) tk rfl (pa_cons (pe_name 0) (pa_cons (pe_name 1) (pa_nil)))) (pg_tup rfl (pgs_cons (pg_name 5 sc_form_at.nd) (pgs_cons (pg_name 1 sc_form_at.nd) (pgs_nil))))) (pss_one (ps_expr (pe_app 2 (pa_cons (pe_tup (pa_cons (pe_name 5) (pa_cons (pe_name 4) (pa_nil)))) (pa_nil))))))))))))))
theorem sc_ask_end : FnScope ["text", "at"] ["text", "at"] (defScope f_ask_end) := ⟨rfl, rfl, rfl, by decide +kernel, rfl, by decide +kernel, by decide +kernel⟩
theorem t_ask_end {k : Nat} (M : Md P w K mg base) (h2k : 2 ≤ k) {cdv : Value} {A : Around} {outer : List Env} {s : Shared} {H : Hp} {E : XK} (hr : Room k (cxD P w K mg base ["text", "at"] "ask_end" f_ask_end cdv A outer s H E).A) (tk : Takes (cxD P w K mg base ["text", "at"] "ask_end" f_ask_end cdv A outer s H E) (wD E)) :
    PSst (cxD P w K mg base ["text", "at"] "ask_end" f_ask_end cdv A outer s H E) (wD E) (defBody f_ask_end) (x_ask_end (He.ga K)) := by
  have hu : (cxD P w K mg base ["text", "at"] "ask_end" f_ask_end cdv A outer s H E).A.units + 65 < cLine := by have := hr.un; omega
  have hu4 : (cxD P w K mg base ["text", "at"] "ask_end" f_ask_end cdv A outer s H E).A.units + 64 < cLine := by have := hr.un; omega
  exact pss_one (ps_if (pt_cmp (op_neD hu4) neT_ok (pe_name 1) (pe_callB call_lenT lenT_ok rfl M.len bt_len (pa_cons (pe_name 0) (pa_nil))) (by rfl)) (pss_one (ps_raise1 M.k_BadText tk (hr.mono h2k) rfl (pa_cons (pe_name 1) (pa_nil)))) (pss_nil))
theorem sc_ask_limits : FnScope ["forms", "form"] ["forms"] (defScope f_ask_limits) := ⟨rfl, rfl, rfl, by decide +kernel, rfl, by decide +kernel, by decide +kernel⟩
theorem t_ask_limits {k : Nat} (M : Md P w K mg base) (h2k : 2 ≤ k) {k_form_depth : Nat} {g_form_depth : PF} (F_form_depth : Fn1 P w K mg base k_form_depth "form_depth" ["form"] (spP K g_form_depth)) (hk_form_depth : k_form_depth ≤ k) {k_form_size : Nat} {g_form_size : PF} (F_form_size : Fn1 P w K mg base k_form_size "form_size" ["form"] (spP K g_form_size)) (hk_form_size : k_form_size ≤ k) {cdv : Value} {A : Around} {outer : List Env} {s : Shared} {H : Hp} {E : XK} (hr : Room k (cxD P w K mg base ["forms", "form"] "ask_limits" f_ask_limits cdv A outer s H E).A) (tk : Takes (cxD P w K mg base ["forms", "form"] "ask_limits" f_ask_limits cdv A outer s H E) (wD E)) :
    PSst (cxD P w K mg base ["forms", "form"] "ask_limits" f_ask_limits cdv A outer s H E) (wD E) (defBody f_ask_limits) (x_ask_limits g_form_depth g_form_size (He.ga K)) := by
  have hu : (cxD P w K mg base ["forms", "form"] "ask_limits" f_ask_limits cdv A outer s H E).A.units + 65 < cLine := by have := hr.un; omega
  have hu4 : (cxD P w K mg base ["forms", "form"] "ask_limits" f_ask_limits cdv A outer s H E).A.units + 64 < cLine := by have := hr.un; omega
  exact pss_cons (ps_for (passes_of rfl) rfl (pi_seq (pe_name 0)) (pg_name 1 sc_ask_limits.nd) (pss_one (ps_if (pt_cmp op_gt intT_ok (pe_call F_form_depth (hr.mono hk_form_depth) tk rfl (pa_cons (pe_name 1) (pa_nil))) (pe_globE (t := .int 24) rfl M.MOST_DEPTH (fun _ => rfl)) (by rfl)) (pss_one (ps_raise1 M.k_TooDeep tk (hr.mono h2k) rfl (pa_cons (pe_globE (t := .int 24) rfl M.MOST_DEPTH (fun _ => rfl)) (pa_nil)))) (pss_nil)))) (pss_one (ps_for (passes_of rfl) rfl (pi_seq (pe_name 0)) (pg_name 1 sc_ask_limits.nd) (pss_one (ps_if (pt_cmp op_gt intT_ok (pe_call F_form_size (hr.mono hk_form_size) tk rfl (pa_cons (pe_name 1) (pa_nil))) (pe_globE (t := .int 100) rfl M.MOST_NODES (fun _ => rfl)) (by rfl)) (pss_one (ps_raise1 M.k_TooBig tk (hr.mono h2k) rfl (pa_cons (pe_globE (t := .int 100) rfl M.MOST_NODES (fun _ => rfl)) (pa_nil)))) (pss_nil)))))
theorem sc_read_form : FnScope ["text", "form", "at"] ["text"] (defScope f_read_form) := ⟨rfl, rfl, rfl, by decide +kernel, rfl, by decide +kernel, by decide +kernel⟩
theorem t_read_form {k : Nat} (M : Md P w K mg base) {k_form_at : Nat} {g_form_at : PF} (F_form_at : Fn1 P w K mg base k_form_at "form_at" ["text", "at"] (spP K g_form_at)) (hk_form_at : k_form_at ≤ k) {k_ask_end : Nat} {g_ask_end : PF} (F_ask_end : Fn1 P w K mg base k_ask_end "ask_end" ["text", "at"] (spP K g_ask_end)) (hk_ask_end : k_ask_end ≤ k) {k_ask_limits : Nat} {g_ask_limits : PF} (F_ask_limits : Fn1 P w K mg base k_ask_limits "ask_limits" ["forms"] (spP K g_ask_limits)) (hk_ask_limits : k_ask_limits ≤ k) {cdv : Value} {A : Around} {outer : List Env} {s : Shared} {H : Hp} {E : XK} (hr : Room k (cxD P w K mg base ["text", "form", "at"] "read_form" f_read_form cdv A outer s H E).A) (tk : Takes (cxD P w K mg base ["text", "form", "at"] "read_form" f_read_form cdv A outer s H E) (wD E)) :
    PSst (cxD P w K mg base ["text", "form", "at"] "read_form" f_read_form cdv A outer s H E) (wD E) (defBody f_read_form) (x_read_form g_form_at g_ask_end g_ask_limits) := by
  have hu : (cxD P w K mg base ["text", "form", "at"] "read_form" f_read_form cdv A outer s H E).A.units + 65 < cLine := by have := hr.un; omega
  have hu4 : (cxD P w K mg base ["text", "form", "at"] "read_form" f_read_form cdv A outer s H E).A.units + 64 < cLine := by have := hr.un; omega
  exact pss_cons (ps_asg (pe_call F_form_at (hr.mono hk_form_at) tk rfl (pa_cons (pe_name 0) (pa_cons (pe_int) (pa_nil)))) (pg_tup rfl (pgs_cons (pg_name 1 sc_read_form.nd) (pgs_cons (pg_name 2 sc_read_form.nd) (pgs_nil))))) (pss_cons (ps_expr (pe_call F_ask_end (hr.mono hk_ask_end) tk rfl (pa_cons (pe_name 0) (pa_cons (pe_name 2) (pa_nil))))) (pss_cons (ps_expr (pe_call F_ask_limits (hr.mono hk_ask_limits) tk rfl (pa_cons (pe_lst (pa_cons (pe_name 1) (pa_nil))) (pa_nil)))) (pss_one (ps_ret (pe_name 1)))))
theorem sc_read_row : FnScope ["text", "left", "at", "start", "right", "end"] ["text"] (defScope f_read_row) := ⟨rfl, rfl, rfl, by decide +kernel, rfl, by decide +kernel, by decide +kernel⟩
theorem t_read_row {k : Nat} (M : Md P w K mg base) {k_form_at : Nat} {g_form_at : PF} (F_form_at : Fn1 P w K mg base k_form_at "form_at" ["text", "at"] (spP K g_form_at)) (hk_form_at : k_form_at ≤ k) {k_after_sign : Nat} {g_after_sign : PF} (F_after_sign : Fn1 P w K mg base k_after_sign "after_sign" ["text", "at", "sign"] (spP K g_after_sign)) (hk_after_sign : k_after_sign ≤ k) {k_ask_end : Nat} {g_ask_end : PF} (F_ask_end : Fn1 P w K mg base k_ask_end "ask_end" ["text", "at"] (spP K g_ask_end)) (hk_ask_end : k_ask_end ≤ k) {k_ask_limits : Nat} {g_ask_limits : PF} (F_ask_limits : Fn1 P w K mg base k_ask_limits "ask_limits" ["forms"] (spP K g_ask_limits)) (hk_ask_limits : k_ask_limits ≤ k) {cdv : Value} {A : Around} {outer : List Env} {s : Shared} {H : Hp} {E : XK} (hr : Room k (cxD P w K mg base ["text", "left", "at", "start", "right", "end"] "read_row" f_read_row cdv A outer s H E).A) (tk : Takes (cxD P w K mg base ["text", "left", "at", "start", "right", "end"] "read_row" f_read_row cdv A outer s H E) (wD E)) :
    PSst (cxD P w K mg base ["text", "left", "at", "start", "right", "end"] "read_row" f_read_row cdv A outer s H E) (wD E) (defBody f_read_row) (x_read_row g_form_at g_after_sign g_ask_end g_ask_limits) := by
  have hu : (cxD P w K mg base ["text", "left", "at", "start", "right", "end"] "read_row" f_read_row cdv A outer s H E).A.units + 65 < cLine := by have := hr.un; omega
  have hu4 : (cxD P w K mg base ["text", "left", "at", "start", "right", "end"] "read_row" f_read_row cdv A outer s H E).A.units + 64 < cLine := by have := hr.un; omega
  exact pss_cons (ps_asg (pe_call F_form_at (hr.mono hk_form_at) tk rfl (pa_cons (pe_name 0) (pa_cons (pe_int) (pa_nil)))) (pg_tup rfl (pgs_cons (pg_name 1 sc_read_row.nd) (pgs_cons (pg_name 2 sc_read_row.nd) (pgs_nil))))) (pss_cons (ps_set 3 sc_read_row.nd (pe_call F_after_sign (hr.mono hk_after_sign) tk rfl (pa_cons (pe_name 0) (pa_cons (pe_name 2) (pa_cons (pe_str) (pa_nil)))))) (pss_cons (ps_asg (pe_call F_form_at (hr.mono hk_form_at) tk rfl (pa_cons (pe_name 0) (pa_cons (pe_name 3) (pa_nil)))) (pg_tup rfl (pgs_cons (pg_name 4 sc_read_row.nd) (pgs_cons (pg_name 5 sc_read_row.nd) (pgs_nil))))) (pss_cons (ps_expr (pe_call F_ask_end (hr.mono hk_ask_end) tk rfl (pa_cons (pe_name 0) (pa_cons (pe_name 5) (pa_nil))))) (pss_cons (ps_expr (pe_call F_ask_limits (hr.mono hk_ask_limits) tk rfl (pa_cons (pe_lst (pa_cons (pe_name 1) (pa_cons (pe_name 4) (pa_nil)))) (pa_nil)))) (pss_one (ps_ret (pe_tup (pa_cons (pe_name 1) (pa_cons (pe_name 4) (pa_nil))))))))))
theorem sc__law_mixed : FnScope ["number"] ["number"] (defScope f__law_mixed) := ⟨rfl, rfl, rfl, by decide +kernel, rfl, by decide +kernel, by decide +kernel⟩
theorem t__law_mixed {k : Nat} (M : Md P w K mg base) {cdv : Value} {A : Around} {outer : List Env} {s : Shared} {H : Hp} {E : XK} (hr : Room k (cxD P w K mg base ["number"] "_law_mixed" f__law_mixed cdv A outer s H E).A) (tk : Takes (cxD P w K mg base ["number"] "_law_mixed" f__law_mixed cdv A outer s H E) (wD E)) :
    PSst (cxD P w K mg base ["number"] "_law_mixed" f__law_mixed cdv A outer s H E) (wD E) (defBody f__law_mixed) (x__law_mixed) := by
  have hu : (cxD P w K mg base ["number"] "_law_mixed" f__law_mixed cdv A outer s H E).A.units + 65 < cLine := by have := hr.un; omega
  have hu4 : (cxD P w K mg base ["number"] "_law_mixed" f__law_mixed cdv A outer s H E).A.units + 64 < cLine := by have := hr.un; omega
  exact pss_cons (ps_set 0 sc__law_mixed.nd (pe_bin op_mod modT_ok (pe_callTy call_int1 toIntT_ok rfl M.int bt_int (pa_cons (pe_bin op_addT addT_ok (pe_bin op_mulT mulT_ok (pe_name 0) (pe_int)) (pe_int)) (pa_nil))) (pe_int))) (pss_cons (ps_set 0 sc__law_mixed.nd (pe_bin op_mod modT_ok (pe_callTy call_int1 toIntT_ok rfl M.int bt_int (pa_cons (pe_bin op_addT addT_ok (pe_bin op_mulT mulT_ok (pe_name 0) (pe_name 0)) (pe_bin op_fdivW divT_ok (pe_name 0) (pe_int))) (pa_nil))) (pe_int))) (pss_cons (ps_set 0 sc__law_mixed.nd (pe_bin op_mod modT_ok (pe_callTy call_int1 toIntT_ok rfl M.int bt_int (pa_cons (pe_bin op_addT addT_ok (pe_bin op_mulT mulT_ok (pe_bin op_mod modT_ok (pe_callTy call_int1 toIntT_ok rfl M.int bt_int (pa_cons (pe_name 0) (pa_nil))) (pe_int)) (pe_int)) (pe_bin op_fdivW divT_ok (pe_name 0) (pe_int))) (pa_nil))) (pe_int))) (pss_one (ps_ret (pe_bin op_mod modT_ok (pe_callTy call_int1 toIntT_ok rfl M.int bt_int (pa_cons (pe_bin op_addT addT_ok (pe_bin op_mulT mulT_ok (pe_name 0) (pe_int)) (pe_bin op_fdivW divT_ok (pe_name 0) (pe_int))) (pa_nil))) (pe_int))))))
theorem sc__law_store : FnScope ["script", "cells", "cell", "base"] ["script"] (defScope f__law_store) := ⟨rfl, rfl, rfl, by decide +kernel, rfl, by decide +kernel, by decide +kernel⟩
theorem t__law_store {k : Nat} (M : Md P w K mg base) {k__law_mixed : Nat} {g__law_mixed : PF} (F__law_mixed : Fn1 P w K mg base k__law_mixed "_law_mixed" ["number"] (spP K g__law_mixed)) (hk__law_mixed : k__law_mixed ≤ k) {cdv : Value} {A : Around} {outer : List Env} {s : Shared} {H : Hp} {E : XK} (hr : Room k (cxD P w K mg base ["script", "cells", "cell", "base"] "_law_store" f__law_store cdv A outer s H E).A) (tk : Takes (cxD P w K mg base ["script", "cells", "cell", "base"] "_law_store" f__law_store cdv A outer s H E) (wD E)) :
    PSst (cxD P w K mg base ["script", "cells", "cell", "base"] "_law_store" f__law_store cdv A outer s H E) (wD E) (defBody f__law_store) (x__law_store g__law_mixed) := by
  have hu : (cxD P w K mg base ["script", "cells", "cell", "base"] "_law_store" f__law_store cdv A outer s H E).A.units + 65 < cLine := by have := hr.un; omega
  have hu4 : (cxD P w K mg base ["script", "cells", "cell", "base"] "_law_store" f__law_store cdv A outer s H E).A.units + 64 < cLine := by have := hr.un; omega
  exact pss_cons (ps_setLc 1 (own := [("cell", 2)]) rfl sc__law_store.nd (pi_seq (pe_slice (pe_name 0) (po_none) (po_some (pe_int)))) (show BlkOk ["script", "cells", "cell", "base"] (defScope f__law_store) _ _ from ⟨rfl, by decide +kernel, by decide +kernel, by decide +kernel, by decide +kernel⟩) (by decide) (fun _ _ _ _ _ => pg_name 2 sc__law_store.nd) (fun _ _ _ _ _ => pts_nil) (fun _ _ _ _ _ => pe_callTy call_int1 toIntT_ok rfl M.int bt_int (pa_cons (pe_name 2) (pa_nil)))) (pss_cons (ps_set 3 sc__law_store.nd (pe_bin op_addT addT_ok (pe_int) (pe_callB call_lenT lenT_ok rfl M.len bt_len (pa_cons (pe_name 1) (pa_nil))))) (pss_cons (ps_for (passes_of rfl) rfl (pi_seq (pe_name 1)) (pg_name 2 sc__law_store.nd) (pss_one (ps_set 3 sc__law_store.nd (pe_call F__law_mixed (hr.mono hk__law_mixed) tk rfl (pa_cons (pe_bin op_addT addT_ok (pe_bin op_mulT mulT_ok (pe_name 3) (pe_int)) (pe_bin op_mod modT_ok (pe_callTy call_int1 toIntT_ok rfl M.int bt_int (pa_cons (pe_name 2) (pa_nil))) (pe_int))) (pa_nil)))))) (pss_one (ps_ret (pe_lst (pa_cons (pe_name 1) (pa_cons (pe_int) (pa_cons (pe_int) (pa_cons (pe_int) (pa_cons (pe_int) (pa_cons (pe_name 3) (pa_cons (pe_int) (pa_nil)))))))))))))
theorem sc__law_advance : FnScope ["store", "cell"] ["store"] (defScope f__law_advance) := ⟨rfl, rfl, rfl, by decide +kernel, rfl, by decide +kernel, by decide +kernel⟩
theorem t__law_advance {k : Nat} (M : Md P w K mg base) {cdv : Value} {A : Around} {outer : List Env} {s : Shared} {H : Hp} {E : XK} (hr : Room k (cxD P w K mg base ["store", "cell"] "_law_advance" f__law_advance cdv A outer s H E).A) (tk : Takes (cxD P w K mg base ["store", "cell"] "_law_advance" f__law_advance cdv A outer s H E) (wD E)) :
    PSst (cxD P w K mg base ["store", "cell"] "_law_advance" f__law_advance cdv A outer s H E) (wD E) (defBody f__law_advance) (x__law_advance) := by
  have hu : (cxD P w K mg base ["store", "cell"] "_law_advance" f__law_advance cdv A outer s H E).A.units + 65 < cLine := by have := hr.un; omega
  have hu4 : (cxD P w K mg base ["store", "cell"] "_law_advance" f__law_advance cdv A outer s H E).A.units + 64 < cLine := by have := hr.un; omega
  exact pss_cons (ps_set 1 sc__law_advance.nd (pe_callB call_abs absT_ok rfl M.abs bt_abs (pa_cons (pe_ix ix_seq ixT_ok (pe_ixN 0 (pe_int) (fun _ _ => rfl)) (pe_ixN 0 (pe_int) (fun _ _ => rfl)) (fun _ _ => rfl)) (pa_nil)))) (pss_cons (ps_asg (pe_bin op_mod modT_ok (pe_callTy call_int1 toIntT_ok rfl M.int bt_int (pa_cons (pe_ix ix_seq ixT_ok (pe_ixN 0 (pe_int) (fun _ _ => rfl)) (pe_ixN 0 (pe_int) (fun _ _ => rfl)) (fun _ _ => rfl)) (pa_nil))) (pe_int)) (pg_ixN 0 (pe_int))) (pss_cons (ps_asg (pe_bin op_addT addT_ok (pe_ixN 0 (pe_int) (fun _ _ => rfl)) (pe_int)) (pg_ixN 0 (pe_int))) (pss_cons (ps_asg (pe_int) (pg_ixN 0 (pe_int))) (pss_cons (ps_asg (pe_int) (pg_ixN 0 (pe_int))) (pss_one (ps_if (pt_cmp op_ge intT_ok (pe_name 1) (pe_bin op_powB powT_ok (pe_int) (pe_int)) (by rfl)) (pss_cons (ps_asg (pe_bin op_mod modT_ok (pe_callTy call_int1 toIntT_ok rfl M.int bt_int (pa_cons (pe_name 1) (pa_nil))) (pe_bin op_powB powT_ok (pe_bin op_powB powT_ok (pe_int) (pe_int)) (pe_int))) (pg_ixN 0 (pe_int))) (pss_one (ps_asg (pe_int) (pg_ixN 0 (pe_int))))) (pss_nil)))))))
theorem sc__law_take : FnScope ["store", "many", "number", "salt"] ["store", "many"] (defScope f__law_take) := ⟨rfl, rfl, rfl, by decide +kernel, rfl, by decide +kernel, by decide +kernel⟩
theorem t__law_take {k : Nat} (M : Md P w K mg base) {k__law_advance : Nat} {g__law_advance : IF} (F__law_advance : Fn1 P w K mg base k__law_advance "_law_advance" ["store"] (spI K g__law_advance)) (hk__law_advance : k__law_advance ≤ k) {k__law_mixed : Nat} {g__law_mixed : PF} (F__law_mixed : Fn1 P w K mg base k__law_mixed "_law_mixed" ["number"] (spP K g__law_mixed)) (hk__law_mixed : k__law_mixed ≤ k) {cdv : Value} {A : Around} {outer : List Env} {s : Shared} {H : Hp} {E : XK} (hr : Room k (cxD P w K mg base ["store", "many", "number", "salt"] "_law_take" f__law_take cdv A outer s H E).A) (tk : Takes (cxD P w K mg base ["store", "many", "number", "salt"] "_law_take" f__law_take cdv A outer s H E) (wD E)) :
    PSst (cxD P w K mg base ["store", "many", "number", "salt"] "_law_take" f__law_take cdv A outer s H E) (wD E) (defBody f__law_take) (x__law_take g__law_advance g__law_mixed) := by
  have hu : (cxD P w K mg base ["store", "many", "number", "salt"] "_law_take" f__law_take cdv A outer s H E).A.units + 65 < cLine := by have := hr.un; omega
  have hu4 : (cxD P w K mg base ["store", "many", "number", "salt"] "_law_take" f__law_take cdv A outer s H E).A.units + 64 < cLine := by have := hr.un; omega
  exact pss_cons (ps_if (pt_cmp op_lt intT_ok (pe_name 1) (pe_int) (by rfl)) (pss_one (ps_ret (pe_int))) (pss_nil)) (pss_cons (ps_if (pt_bor (PWt.pt (pw_and (pt_cmp (op_eqD hu4) eqT_ok (pe_ix ix_seq ixT_ok (pe_name 0) (pe_int) (fun _ _ => rfl)) (pe_int) (by rfl)) (pw_and1 (pt_cmp op_lt intT_ok (pe_ix ix_seq ixT_ok (pe_name 0) (pe_int) (fun _ _ => rfl)) (pe_callB call_lenT lenT_ok rfl M.len bt_len (pa_cons (pe_ix ix_seq ixT_ok (pe_name 0) (pe_int) (fun _ _ => rfl)) (pa_nil))) (by rfl)))))) (pss_one (ps_expr (pe_callI 0 F__law_advance (hr.mono hk__law_advance) tk rfl (pa_nil)))) (pss_nil)) (pss_cons (ps_asg (pe_bin op_addT addT_ok (pe_ixN 0 (pe_int) (fun _ _ => rfl)) (pe_int)) (pg_ixN 0 (pe_int))) (pss_cons (ps_set 2 sc__law_take.nd (pe_callTy call_int1 toIntT_ok rfl M.int bt_int (pa_cons (pe_ixN 0 (pe_int) (fun _ _ => rfl)) (pa_nil)))) (pss_cons (ps_if (pt_bor (pt_cmp (op_eqD hu4) eqT_ok (pe_ix ix_seq ixT_ok (pe_name 0) (pe_int) (fun _ _ => rfl)) (pe_int) (by rfl))) (pss_cons (ps_set 2 sc__law_take.nd (pe_int)) (pss_one (ps_asg (pe_int) (pg_ixN 0 (pe_int))))) (pss_one (ps_asg (pe_bin op_sub1 subT_ok (pe_ixN 0 (pe_int) (fun _ _ => rfl)) (pe_int)) (pg_ixN 0 (pe_int))))) (pss_cons (ps_if (pt_cmp op_gt intT_ok (pe_name 2) (pe_int) (by rfl)) (pss_cons (ps_asg (pe_bin op_fdivW divT_ok (pe_name 2) (pe_name 1)) (pg_ixN 0 (pe_int))) (pss_cons (ps_if (pt_bor (pt_cmp (op_eqD hu4) eqT_ok (pe_ix ix_seq ixT_ok (pe_name 0) (pe_int) (fun _ _ => rfl)) (pe_int) (by rfl))) (pss_one (ps_asg (pe_int) (pg_ixN 0 (pe_int)))) (pss_nil)) (pss_one (ps_ret (pe_bin op_mod modT_ok (pe_callTy call_int1 toIntT_ok rfl M.int bt_int (pa_cons (pe_name 2) (pa_nil))) (pe_name 1)))))) (pss_nil)) (pss_cons (ps_set 3 sc__law_take.nd (pe_ixN 0 (pe_int) (fun _ _ => rfl))) (pss_one (ps_ret (pe_bin op_mod modT_ok (pe_callTy call_int1 toIntT_ok rfl M.int bt_int (pa_cons (pe_call F__law_mixed (hr.mono hk__law_mixed) tk rfl (pa_cons (pe_bin op_addT addT_ok (pe_call F__law_mixed (hr.mono hk__law_mixed) tk rfl (pa_cons (pe_bin op_addT addT_ok (pe_bin op_addT addT_ok (pe_ixN 0 (pe_int) (fun _ _ => rfl)) (pe_bin op_mulT mulT_ok (pe_name 3) (pe_int))) (pe_bin op_mulT mulT_ok (pe_ixN 0 (pe_int) (fun _ _ => rfl)) (pe_int))) (pa_nil))) (pe_name 3)) (pa_nil))) (pa_nil))) (pe_name 1))))))))))
theorem sc__law_pick : FnScope ["store", "things"] ["store", "things"] (defScope f__law_pick) := ⟨rfl, rfl, rfl, by decide +kernel, rfl, by decide +kernel, by decide +kernel⟩
theorem t__law_pick {k : Nat} (M : Md P w K mg base) {k__law_take : Nat} {g__law_take : IF} (F__law_take : Fn1 P w K mg base k__law_take "_law_take" ["store", "many"] (spI K g__law_take)) (hk__law_take : k__law_take ≤ k) {cdv : Value} {A : Around} {outer : List Env} {s : Shared} {H : Hp} {E : XK} (hr : Room k (cxD P w K mg base ["store", "things"] "_law_pick" f__law_pick cdv A outer s H E).A) (tk : Takes (cxD P w K mg base ["store", "things"] "_law_pick" f__law_pick cdv A outer s H E) (wD E)) :
    PSst (cxD P w K mg base ["store", "things"] "_law_pick" f__law_pick cdv A outer s H E) (wD E) (defBody f__law_pick) (x__law_pick g__law_take) := by
  have hu : (cxD P w K mg base ["store", "things"] "_law_pick" f__law_pick cdv A outer s H E).A.units + 65 < cLine := by have := hr.un; omega
  have hu4 : (cxD P w K mg base ["store", "things"] "_law_pick" f__law_pick cdv A outer s H E).A.units + 64 < cLine := by have := hr.un; omega
  exact pss_one (ps_ret (pe_ix ix_seq ixT_ok (pe_name 1) (pe_callI 0 F__law_take (hr.mono hk__law_take) tk rfl (pa_cons (pe_callB call_lenT lenT_ok rfl M.len bt_len (pa_cons (pe_name 1) (pa_nil))) (pa_nil))) (fun _ _ => rfl)))
theorem sc__law_amount : FnScope ["store", "low", "high", "way"] ["store", "low", "high"] (defScope f__law_amount) := ⟨rfl, rfl, rfl, by decide +kernel, rfl, by decide +kernel, by decide +kernel⟩
theorem t__law_amount {k : Nat} (M : Md P w K mg base) {k__law_take : Nat} {g__law_take : IF} (F__law_take : Fn1 P w K mg base k__law_take "_law_take" ["store", "many"] (spI K g__law_take)) (hk__law_take : k__law_take ≤ k) {cdv : Value} {A : Around} {outer : List Env} {s : Shared} {H : Hp} {E : XK} (hr : Room k (cxD P w K mg base ["store", "low", "high", "way"] "_law_amount" f__law_amount cdv A outer s H E).A) (tk : Takes (cxD P w K mg base ["store", "low", "high", "way"] "_law_amount" f__law_amount cdv A outer s H E) (wD E)) :
    PSst (cxD P w K mg base ["store", "low", "high", "way"] "_law_amount" f__law_amount cdv A outer s H E) (wD E) (defBody f__law_amount) (x__law_amount g__law_take) := by
  have hu : (cxD P w K mg base ["store", "low", "high", "way"] "_law_amount" f__law_amount cdv A outer s H E).A.units + 65 < cLine := by have := hr.un; omega
  have hu4 : (cxD P w K mg base ["store", "low", "high", "way"] "_law_amount" f__law_amount cdv A outer s H E).A.units + 64 < cLine := by have := hr.un; omega
  exact pss_cons (ps_if (pt_cmp op_le intT_ok (pe_name 2) (pe_name 1) (by rfl)) (pss_one (ps_ret (pe_name 1))) (pss_nil)) (pss_cons (ps_set 3 sc__law_amount.nd (pe_callI 0 F__law_take (hr.mono hk__law_take) tk rfl (pa_cons (pe_int) (pa_nil)))) (pss_cons (ps_if (pt_cmp (op_eqD hu4) eqT_ok (pe_name 3) (pe_int) (by rfl)) (pss_one (ps_ret (pe_name 1))) (pss_nil)) (pss_cons (ps_if (pt_cmp (op_eqD hu4) eqT_ok (pe_name 3) (pe_int) (by rfl)) (pss_one (ps_ret (pe_name 2))) (pss_nil)) (pss_one (ps_ret (pe_bin op_addT addT_ok (pe_name 1) (pe_callI 0 F__law_take (hr.mono hk__law_take) tk rfl (pa_cons (pe_bin op_addT addT_ok (pe_bin op_sub1 subT_ok (pe_name 2) (pe_name 1)) (pe_int)) (pa_nil)))))))))
theorem sc__law_letters : FnScope ["store", "many", "out", "turn"] ["store", "many"] (defScope f__law_letters) := ⟨rfl, rfl, rfl, by decide +kernel, rfl, by decide +kernel, by decide +kernel⟩
theorem t__law_letters {k : Nat} (M : Md P w K mg base) {k__law_take : Nat} {g__law_take : IF} (F__law_take : Fn1 P w K mg base k__law_take "_law_take" ["store", "many"] (spI K g__law_take)) (hk__law_take : k__law_take ≤ k) {cdv : Value} {A : Around} {outer : List Env} {s : Shared} {H : Hp} {E : XK} (hr : Room k (cxD P w K mg base ["store", "many", "out", "turn"] "_law_letters" f__law_letters cdv A outer s H E).A) (tk : Takes (cxD P w K mg base ["store", "many", "out", "turn"] "_law_letters" f__law_letters cdv A outer s H E) (wD E)) :
    PSst (cxD P w K mg base ["store", "many", "out", "turn"] "_law_letters" f__law_letters cdv A outer s H E) (wD E) (defBody f__law_letters) (x__law_letters g__law_take) := by
  have hu : (cxD P w K mg base ["store", "many", "out", "turn"] "_law_letters" f__law_letters cdv A outer s H E).A.units + 65 < cLine := by have := hr.un; omega
  have hu4 : (cxD P w K mg base ["store", "many", "out", "turn"] "_law_letters" f__law_letters cdv A outer s H E).A.units + 64 < cLine := by have := hr.un; omega
  exact pss_cons (ps_set 2 sc__law_letters.nd (pe_str)) (pss_cons (ps_for (passes_of rfl) rfl (pi_range1 rfl M.range (pa_cons (pe_name 1) (pa_nil))) (pg_name 3 sc__law_letters.nd) (pss_one (ps_set 2 sc__law_letters.nd (pe_bin op_addT addT_ok (pe_name 2) (pe_ix ix_seq ixT_ok (pe_str) (pe_callI 0 F__law_take (hr.mono hk__law_take) tk rfl (pa_cons (pe_int) (pa_nil))) (fun _ _ => rfl)))))) (pss_one (ps_ret (pe_name 2))))
theorem sc__law_leaf : FnScope ["store", "kinds", "many"] ["store", "kinds", "many"] (defScope f__law_leaf) := ⟨rfl, rfl, rfl, by decide +kernel, rfl, by decide +kernel, by decide +kernel⟩
theorem t__law_leaf {k : Nat} (M : Md P w K mg base) {k__law_take : Nat} {g__law_take : IF} (F__law_take : Fn1 P w K mg base k__law_take "_law_take" ["store", "many"] (spI K g__law_take)) (hk__law_take : k__law_take ≤ k) {k__law_pick : Nat} {g__law_pick : IF} (F__law_pick : Fn1 P w K mg base k__law_pick "_law_pick" ["store", "things"] (spI K g__law_pick)) (hk__law_pick : k__law_pick ≤ k) {cdv : Value} {A : Around} {outer : List Env} {s : Shared} {H : Hp} {E : XK} (hr : Room k (cxD P w K mg base ["store", "kinds", "many"] "_law_leaf" f__law_leaf cdv A outer s H E).A) (tk : Takes (cxD P w K mg base ["store", "kinds", "many"] "_law_leaf" f__law_leaf cdv A outer s H E) (wD E)) :
    PSst (cxD P w K mg base ["store", "kinds", "many"] "_law_leaf" f__law_leaf cdv A outer s H E) (wD E) (defBody f__law_leaf) (x__law_leaf g__law_take g__law_pick) := by
  have hu : (cxD P w K mg base ["store", "kinds", "many"] "_law_leaf" f__law_leaf cdv A outer s H E).A.units + 65 < cLine := by have := hr.un; omega
  have hu4 : (cxD P w K mg base ["store", "kinds", "many"] "_law_leaf" f__law_leaf cdv A outer s H E).A.units + 64 < cLine := by have := hr.un; omega
  exact pss_cons (ps_if (PWt.pt (pw_and (pt_cmp op_gt intT_ok (pe_name 2) (pe_int) (by rfl)) (pw_and1 (PWt.pt (pw_or (pt_cmp (op_eqD hu4) eqT_ok (pe_callB call_lenT lenT_ok rfl M.len bt_len (pa_cons (pe_name 1) (pa_nil))) (pe_int) (by rfl)) (pw_or1 (pt_cmp (op_eqD hu4) eqT_ok (pe_callI 0 F__law_take (hr.mono hk__law_take) tk rfl (pa_cons (pe_int) (pa_nil))) (pe_int) (by rfl)))))))) (pss_one (ps_ret (pe_tup (pa_cons (pe_str) (pa_cons (pe_callI 0 F__law_take (hr.mono hk__law_take) tk rfl (pa_cons (pe_name 2) (pa_nil))) (pa_nil)))))) (pss_nil)) (pss_one (ps_ret (pe_tup (pa_cons (pe_str) (pa_cons (pe_callI 0 F__law_pick (hr.mono hk__law_pick) tk rfl (pa_cons (pe_name 1) (pa_nil))) (pa_nil))))))
theorem sc__law_form : FnScope ["store", "kinds", "many", "steps", "stack", "turn", "way", "two"] ["store", "kinds", "many", "steps"] (defScope f__law_form) := ⟨rfl, rfl, rfl, by decide +kernel, rfl, by decide +kernel, by decide +kernel⟩
theorem t__law_form {k : Nat} (M : Md P w K mg base) {k__law_take : Nat} {g__law_take : IF} (F__law_take : Fn1 P w K mg base k__law_take "_law_take" ["store", "many"] (spI K g__law_take)) (hk__law_take : k__law_take ≤ k) {k__law_leaf : Nat} {g__law_leaf : IF} (F__law_leaf : Fn1 P w K mg base k__law_leaf "_law_leaf" ["store", "kinds", "many"] (spI K g__law_leaf)) (hk__law_leaf : k__law_leaf ≤ k) {k__law_pick : Nat} {g__law_pick : IF} (F__law_pick : Fn1 P w K mg base k__law_pick "_law_pick" ["store", "things"] (spI K g__law_pick)) (hk__law_pick : k__law_pick ≤ k) {cdv : Value} {A : Around} {outer : List Env} {s : Shared} {H : Hp} {E : XK} (hr : Room k (cxD P w K mg base ["store", "kinds", "many", "steps", "stack", "turn", "way", "two"] "_law_form" f__law_form cdv A outer s H E).A) (tk : Takes (cxD P w K mg base ["store", "kinds", "many", "steps", "stack", "turn", "way", "two"] "_law_form" f__law_form cdv A outer s H E) (wD E)) :
    PSst (cxD P w K mg base ["store", "kinds", "many", "steps", "stack", "turn", "way", "two"] "_law_form" f__law_form cdv A outer s H E) (wD E) (defBody f__law_form) (x__law_form g__law_take g__law_leaf g__law_pick) := by
  have hu : (cxD P w K mg base ["store", "kinds", "many", "steps", "stack", "turn", "way", "two"] "_law_form" f__law_form cdv A outer s H E).A.units + 65 < cLine := by have := hr.un; omega
  have hu4 : (cxD P w K mg base ["store", "kinds", "many", "steps", "stack", "turn", "way", "two"] "_law_form" f__law_form cdv A outer s H E).A.units + 64 < cLine := by have := hr.un; omega
  exact pss_cons (ps_set 4 sc__law_form.nd (pe_lst (pa_nil))) (pss_cons (ps_for (passes_of rfl) rfl (pi_range1 rfl M.range (pa_cons (pe_callB (call_max2 rfl) maxT_ok rfl M.max bt_max (pa_cons (pe_int) (pa_cons (pe_callTy call_int1 toIntT_ok rfl M.int bt_int (pa_cons (pe_name 3) (pa_nil))) (pa_nil)))) (pa_nil))) (pg_name 5 sc__law_form.nd) (pss_cons (ps_set 6 sc__law_form.nd (pe_int)) (pss_cons (ps_if (pt_bor (pt_cmp op_gt intT_ok (pe_callB call_lenT lenT_ok rfl M.len bt_len (pa_cons (pe_name 4) (pa_nil))) (pe_int) (by rfl))) (pss_one (ps_set 6 sc__law_form.nd (pe_callI 0 F__law_take (hr.mono hk__law_take) tk rfl (pa_cons (pe_int) (pa_nil))))) (pss_nil)) (pss_one (ps_if (pt_bor (PWt.pt (pw_or (pt_cmp op_lt intT_ok (pe_name 6) (pe_int) (by rfl)) (pw_or1 (PWt.pt (pw_and (pt_cmp op_lt intT_ok (pe_name 6) (pe_int) (by rfl)) (pw_and1 (pt_cmp op_lt intT_ok (pe_callB call_lenT lenT_ok rfl M.len bt_len (pa_cons (pe_name 4) (pa_nil))) (pe_int) (by rfl))))))))) (pss_one (ps_expr (pe_app 4 (pa_cons (pe_callI 0 F__law_leaf (hr.mono hk__law_leaf) tk rfl (pa_cons (pe_name 1) (pa_cons (pe_name 2) (pa_nil)))) (pa_nil))))) (pss_one (ps_if (pt_cmp (op_eqD hu4) eqT_ok (pe_name 6) (pe_int) (by rfl)) (pss_one (ps_expr (pe_app 4 (pa_cons (pe_tup (pa_cons (pe_str) (pa_cons (pe_pop 4) (pa_nil)))) (pa_nil))))) (pss_cons (ps_set 7 sc__law_form.nd (pe_pop 4)) (pss_one (ps_expr (pe_app 4 (pa_cons (pe_tup (pa_cons (pe_ix ix_seq ixT_ok (pe_lst (pa_cons (pe_str) (pa_cons (pe_str) (pa_nil)))) (pe_bin op_sub1 subT_ok (pe_name 6) (pe_int)) (fun _ _ => rfl)) (pa_cons (pe_pop 4) (pa_cons (pe_name 7) (pa_nil))))) (pa_nil))))))))))))) (pss_cons (ps_for (passes_of rfl) rfl (pi_range1 rfl M.range (pa_cons (pe_bin op_sub1 subT_ok (pe_bor (pe_callB call_lenT lenT_ok rfl M.len bt_len (pa_cons (pe_name 4) (pa_nil)))) (pe_int)) (pa_nil))) (pg_name 5 sc__law_form.nd) (pss_cons (ps_set 7 sc__law_form.nd (pe_pop 4)) (pss_one (ps_expr (pe_app 4 (pa_cons (pe_tup (pa_cons (pe_callI 0 F__law_pick (hr.mono hk__law_pick) tk rfl (pa_cons (pe_lst (pa_cons (pe_str) (pa_cons (pe_str) (pa_nil)))) (pa_nil))) (pa_cons (pe_pop 4) (pa_cons (pe_name 7) (pa_nil))))) (pa_nil))))))) (pss_one (ps_ret (pe_ixN 4 (pe_int) (fun _ _ => rfl))))))
theorem sc__law_deep_form : FnScope ["store", "leaf", "depth", "form", "turn", "way", "word"] ["store", "leaf", "depth"] (defScope f__law_deep_form) := ⟨rfl, rfl, rfl, by decide +kernel, rfl, by decide +kernel, by decide +kernel⟩
theorem t__law_deep_form {k : Nat} (M : Md P w K mg base) {k__law_take : Nat} {g__law_take : IF} (F__law_take : Fn1 P w K mg base k__law_take "_law_take" ["store", "many"] (spI K g__law_take)) (hk__law_take : k__law_take ≤ k) {cdv : Value} {A : Around} {outer : List Env} {s : Shared} {H : Hp} {E : XK} (hr : Room k (cxD P w K mg base ["store", "leaf", "depth", "form", "turn", "way", "word"] "_law_deep_form" f__law_deep_form cdv A outer s H E).A) (tk : Takes (cxD P w K mg base ["store", "leaf", "depth", "form", "turn", "way", "word"] "_law_deep_form" f__law_deep_form cdv A outer s H E) (wD E)) :
    PSst (cxD P w K mg base ["store", "leaf", "depth", "form", "turn", "way", "word"] "_law_deep_form" f__law_deep_form cdv A outer s H E) (wD E) (defBody f__law_deep_form) (x__law_deep_form g__law_take) := by
  have hu : (cxD P w K mg base ["store", "leaf", "depth", "form", "turn", "way", "word"] "_law_deep_form" f__law_deep_form cdv A outer s H E).A.units + 65 < cLine := by have := hr.un; omega
  have hu4 : (cxD P w K mg base ["store", "leaf", "depth", "form", "turn", "way", "word"] "_law_deep_form" f__law_deep_form cdv A outer s H E).A.units + 64 < cLine := by have := hr.un; omega
  exact pss_cons (ps_set 3 sc__law_deep_form.nd (pe_name 1)) (pss_cons (ps_for (passes_of rfl) rfl (pi_range1 rfl M.range (pa_cons (pe_bin op_sub1 subT_ok (pe_name 2) (pe_int)) (pa_nil))) (pg_name 4 sc__law_deep_form.nd) (pss_cons (ps_set 5 sc__law_deep_form.nd (pe_callI 0 F__law_take (hr.mono hk__law_take) tk rfl (pa_cons (pe_int) (pa_nil)))) (pss_one (ps_if (pt_cmp (op_eqD hu4) eqT_ok (pe_name 5) (pe_int) (by rfl)) (pss_one (ps_set 3 sc__law_deep_form.nd (pe_tup (pa_cons (pe_str) (pa_cons (pe_name 3) (pa_nil)))))) (pss_cons (ps_set 6 sc__law_deep_form.nd (pe_ix ix_seq ixT_ok (pe_lst (pa_cons (pe_str) (pa_cons (pe_str) (pa_nil)))) (pe_bin op_mod modT_ok (pe_callTy call_int1 toIntT_ok rfl M.int bt_int (pa_cons (pe_name 5) (pa_nil))) (pe_int)) (fun _ _ => rfl))) (pss_one (ps_if (pt_cmp op_lt intT_ok (pe_name 5) (pe_int) (by rfl)) (pss_one (ps_set 3 sc__law_deep_form.nd (pe_tup (pa_cons (pe_name 6) (pa_cons (pe_name 1) (pa_cons (pe_name 3) (pa_nil))))))) (pss_one (ps_set 3 sc__law_deep_form.nd (pe_tup (pa_cons (pe_name 6) (pa_cons (pe_name 3) (pa_cons (pe_name 1) (pa_nil)))))))))))))) (pss_one (ps_ret (pe_name 3))))
theorem sc__law_wide_form : FnScope ["store", "leaf", "nodes", "row", "k", "turn", "word", "out"] ["store", "leaf", "nodes"] (defScope f__law_wide_form) := ⟨rfl, rfl, rfl, by decide +kernel, rfl, by decide +kernel, by decide +kernel⟩
theorem t__law_wide_form {k : Nat} (M : Md P w K mg base) {k__law_pick : Nat} {g__law_pick : IF} (F__law_pick : Fn1 P w K mg base k__law_pick "_law_pick" ["store", "things"] (spI K g__law_pick)) (hk__law_pick : k__law_pick ≤ k) {cdv : Value} {A : Around} {outer : List Env} {s : Shared} {H : Hp} {E : XK} (hr : Room k (cxD P w K mg base ["store", "leaf", "nodes", "row", "k", "turn", "word", "out"] "_law_wide_form" f__law_wide_form cdv A outer s H E).A) (tk : Takes (cxD P w K mg base ["store", "leaf", "nodes", "row", "k", "turn", "word", "out"] "_law_wide_form" f__law_wide_form cdv A outer s H E) (wD E)) :
    PSst (cxD P w K mg base ["store", "leaf", "nodes", "row", "k", "turn", "word", "out"] "_law_wide_form" f__law_wide_form cdv A outer s H E) (wD E) (defBody f__law_wide_form) (x__law_wide_form g__law_pick) := by
  have hu : (cxD P w K mg base ["store", "leaf", "nodes", "row", "k", "turn", "word", "out"] "_law_wide_form" f__law_wide_form cdv A outer s H E).A.units + 65 < cLine := by have := hr.un; omega
  have hu4 : (cxD P w K mg base ["store", "leaf", "nodes", "row", "k", "turn", "word", "out"] "_law_wide_form" f__law_wide_form cdv A outer s H E).A.units + 64 < cLine := by have := hr.un; omega
  exact pss_cons (ps_set 3 sc__law_wide_form.nd (pe_lc (own := [("k", 4)]) rfl sc__law_wide_form.nd (pi_range1 rfl M.range (pa_cons (pe_bin op_fdivW divT_ok (pe_bin op_addT addT_ok (pe_name 2) (pe_int)) (pe_int)) (pa_nil))) (show BlkOk ["store", "leaf", "nodes", "row", "k", "turn", "word", "out"] (defScope f__law_wide_form) _ _ from ⟨rfl, by decide +kernel, by decide +kernel, by decide +kernel, by decide +kernel⟩) (by decide) (fun _ _ _ _ _ => pg_name 4 sc__law_wide_form.nd) (fun _ _ _ _ _ => pts_nil) (fun _ _ _ _ _ => pe_name 1))) (pss_cons (ps_if (pt_cmp (op_eqD hu4) eqT_ok (pe_bin op_mod modT_ok (pe_callTy call_int1 toIntT_ok rfl M.int bt_int (pa_cons (pe_name 2) (pa_nil))) (pe_int)) (pe_int) (by rfl)) (pss_one (ps_asg (pe_tup (pa_cons (pe_str) (pa_cons (pe_name 1) (pa_nil)))) (pg_ixN 3 (pe_neg (pe_int))))) (pss_nil)) (pss_cons (ps_for (passes_of rfl) rfl (pi_range1 rfl M.range (pa_cons (pe_int) (pa_nil))) (pg_name 5 sc__law_wide_form.nd) (pss_cons (ps_if (pt_bor (pt_cmp op_lt intT_ok (pe_callB call_lenT lenT_ok rfl M.len bt_len (pa_cons (pe_name 3) (pa_nil))) (pe_int) (by rfl))) (pss_one (ps_break)) (pss_nil)) (pss_cons (ps_set 6 sc__law_wide_form.nd (pe_callI 0 F__law_pick (hr.mono hk__law_pick) tk rfl (pa_cons (pe_lst (pa_cons (pe_str) (pa_cons (pe_str) (pa_nil)))) (pa_nil)))) (pss_cons (ps_setLc 7 (own := [("k", 4)]) rfl sc__law_wide_form.nd (pi_range1 rfl M.range (pa_cons (pe_bin op_fdivW divT_ok (pe_bor (pe_callB call_lenT lenT_ok rfl M.len bt_len (pa_cons (pe_name 3) (pa_nil)))) (pe_int)) (pa_nil))) (show BlkOk ["store", "leaf", "nodes", "row", "k", "turn", "word", "out"] (defScope f__law_wide_form) _ _ from ⟨rfl, by decide +kernel, by decide +kernel, by decide +kernel, by decide +kernel⟩) (by decide) (fun _ _ _ _ _ => pg_name 4 sc__law_wide_form.nd) (fun _ _ _ _ _ => pts_nil) (fun _ _ _ _ _ => pe_tup (pa_cons (pe_name 6) (pa_cons (pe_ixN 3 (pe_bin op_mulT mulT_ok (pe_int) (pe_name 4)) (fun _ _ => rfl)) (pa_cons (pe_ixN 3 (pe_bin op_addT addT_ok (pe_bin op_mulT mulT_ok (pe_int) (pe_name 4)) (pe_int)) (fun _ _ => rfl)) (pa_nil)))))) (pss_cons (ps_if (pt_bor (pt_cmp (op_eqD hu4) eqT_ok (pe_bin op_mod modT_ok (pe_callTy call_int1 toIntT_ok rfl M.int bt_int (pa_cons (pe_callB call_lenT lenT_ok rfl M.len bt_len (pa_cons (pe_name 3) (pa_nil))) (pa_nil))) (pe_int)) (pe_int) (by rfl))) (pss_one (ps_expr (pe_app 7 (pa_cons (pe_ixN 3 (pe_neg (pe_int)) (fun _ _ => rfl)) (pa_nil))))) (pss_nil)) (pss_one (ps_set 3 sc__law_wide_form.nd (pe_mov 7)))))))) (pss_one (ps_ret (pe_ixN 3 (pe_int) (fun _ _ => rfl))))))
theorem sc__law_kids : FnScope ["form"] ["form"] (defScope f__law_kids) := ⟨rfl, rfl, rfl, by decide +kernel, rfl, by decide +kernel, by decide +kernel⟩
theorem t__law_kids {k : Nat} (M : Md P w K mg base) {cdv : Value} {A : Around} {outer : List Env} {s : Shared} {H : Hp} {E : XK} (hr : Room k (cxD P w K mg base ["form"] "_law_kids" f__law_kids cdv A outer s H E).A) (tk : Takes (cxD P w K mg base ["form"] "_law_kids" f__law_kids cdv A outer s H E) (wD E)) :
    PSst (cxD P w K mg base ["form"] "_law_kids" f__law_kids cdv A outer s H E) (wD E) (defBody f__law_kids) (x__law_kids) := by
  have hu : (cxD P w K mg base ["form"] "_law_kids" f__law_kids cdv A outer s H E).A.units + 65 < cLine := by have := hr.un; omega
  have hu4 : (cxD P w K mg base ["form"] "_law_kids" f__law_kids cdv A outer s H E).A.units + 64 < cLine := by have := hr.un; omega
  exact pss_cons (ps_if (pt_cmp (op_inT hu) inT_ok (pe_ix ix_seq ixT_ok (pe_name 0) (pe_int) (fun _ _ => rfl)) (pe_lst (pa_cons (pe_str) (pa_cons (pe_str) (pa_cons (pe_str) (pa_nil))))) (by rfl)) (pss_one (ps_ret (pe_callTy call_list_of listT_ok rfl M.list bt_list (pa_cons (pe_slice (pe_name 0) (po_some (pe_int)) (po_none)) (pa_nil))))) (pss_nil)) (pss_one (ps_ret (pe_lst (pa_nil))))
theorem sc__law_preorder : FnScope ["form", "out", "todo", "turn", "part", "kids", "k"] ["form"] (defScope f__law_preorder) := ⟨rfl, rfl, rfl, by decide +kernel, rfl, by decide +kernel, by decide +kernel⟩
theorem t__law_preorder {k : Nat} (M : Md P w K mg base) {k__law_kids : Nat} {g__law_kids : PF} (F__law_kids : Fn1 P w K mg base k__law_kids "_law_kids" ["form"] (spP K g__law_kids)) (hk__law_kids : k__law_kids ≤ k) {cdv : Value} {A : Around} {outer : List Env} {s : Shared} {H : Hp} {E : XK} (hr : Room k (cxD P w K mg base ["form", "out", "todo", "turn", "part", "kids", "k"] "_law_preorder" f__law_preorder cdv A outer s H E).A) (tk : Takes (cxD P w K mg base ["form", "out", "todo", "turn", "part", "kids", "k"] "_law_preorder" f__law_preorder cdv A outer s H E) (wD E)) :
    PSst (cxD P w K mg base ["form", "out", "todo", "turn", "part", "kids", "k"] "_law_preorder" f__law_preorder cdv A outer s H E) (wD E) (defBody f__law_preorder) (x__law_preorder g__law_kids) := by
  have hu : (cxD P w K mg base ["form", "out", "todo", "turn", "part", "kids", "k"] "_law_preorder" f__law_preorder cdv A outer s H E).A.units + 65 < cLine := by have := hr.un; omega
  have hu4 : (cxD P w K mg base ["form", "out", "todo", "turn", "part", "kids", "k"] "_law_preorder" f__law_preorder cdv A outer s H E).A.units + 64 < cLine := by have := hr.un; omega
  exact pss_cons (ps_set 1 sc__law_preorder.nd (pe_lst (pa_nil))) (pss_cons (ps_set 2 sc__law_preorder.nd (pe_lst (pa_cons (pe_name 0) (pa_nil)))) (pss_cons (ps_for (passes_of rfl) rfl (pi_range1 rfl M.range (pa_cons (pe_int) (pa_nil))) (pg_name 3 sc__law_preorder.nd) (pss_cons (ps_if (pt_bor (pt_cmp (op_eqD hu4) eqT_ok (pe_callB call_lenT lenT_ok rfl M.len bt_len (pa_cons (pe_name 2) (pa_nil))) (pe_int) (by rfl))) (pss_one (ps_break)) (pss_nil)) (pss_cons (ps_set 4 sc__law_preorder.nd (pe_pop 2)) (pss_cons (ps_expr (pe_app 1 (pa_cons (pe_name 4) (pa_nil)))) (pss_cons (ps_set 5 sc__law_preorder.nd (pe_call F__law_kids (hr.mono hk__law_kids) tk rfl (pa_cons (pe_name 4) (pa_nil)))) (pss_one (ps_for (passes_of rfl) rfl (pi_range3 rfl M.range (pa_cons (pe_bin op_sub1 subT_ok (pe_callB call_lenT lenT_ok rfl M.len bt_len (pa_cons (pe_name 5) (pa_nil))) (pe_int)) (pa_cons (pe_neg (pe_int)) (pa_cons (pe_neg (pe_int)) (pa_nil))))) (pg_name 6 sc__law_preorder.nd) (pss_one (ps_expr (pe_app 2 (pa_cons (pe_ix ix_seq ixT_ok (pe_name 5) (pe_name 6) (fun _ _ => rfl)) (pa_nil)))))))))))) (pss_one (ps_ret (pe_mov 1)))))
theorem sc__law_form_text : FnScope ["form", "parts", "stack", "k", "part", "one", "two", "sign"] ["form"] (defScope f__law_form_text) := ⟨rfl, rfl, rfl, by decide +kernel, rfl, by decide +kernel, by decide +kernel⟩
theorem t__law_form_text {k : Nat} (M : Md P w K mg base) {k__law_preorder : Nat} {g__law_preorder : PF} (F__law_preorder : Fn1 P w K mg base k__law_preorder "_law_preorder" ["form"] (spP K g__law_preorder)) (hk__law_preorder : k__law_preorder ≤ k) {cdv : Value} {A : Around} {outer : List Env} {s : Shared} {H : Hp} {E : XK} (hr : Room k (cxD P w K mg base ["form", "parts", "stack", "k", "part", "one", "two", "sign"] "_law_form_text" f__law_form_text cdv A outer s H E).A) (tk : Takes (cxD P w K mg base ["form", "parts", "stack", "k", "part", "one", "two", "sign"] "_law_form_text" f__law_form_text cdv A outer s H E) (wD E)) :
    PSst (cxD P w K mg base ["form", "parts", "stack", "k", "part", "one", "two", "sign"] "_law_form_text" f__law_form_text cdv A outer s H E) (wD E) (defBody f__law_form_text) (x__law_form_text g__law_preorder) := by
  have hu : (cxD P w K mg base ["form", "parts", "stack", "k", "part", "one", "two", "sign"] "_law_form_text" f__law_form_text cdv A outer s H E).A.units + 65 < cLine := by have := hr.un; omega
  have hu4 : (cxD P w K mg base ["form", "parts", "stack", "k", "part", "one", "two", "sign"] "_law_form_text" f__law_form_text cdv A outer s H E).A.units + 64 < cLine := by have := hr.un; omega
  exact pss_cons (ps_set 1 sc__law_form_text.nd (pe_call F__law_preorder (hr.mono hk__law_preorder) tk rfl (pa_cons (pe_name 0) (pa_nil)))) (pss_cons (ps_set 2 sc__law_form_text.nd (pe_lst (pa_nil))) (pss_cons (ps_for (passes_of rfl) rfl (pi_range3 rfl M.range (pa_cons (pe_bin op_sub1 subT_ok (pe_callB call_lenT lenT_ok rfl M.len bt_len (pa_cons (pe_name 1) (pa_nil))) (pe_int)) (pa_cons (pe_neg (pe_int)) (pa_cons (pe_neg (pe_int)) (pa_nil))))) (pg_name 3 sc__law_form_text.nd) (pss_cons (ps_set 4 sc__law_form_text.nd (pe_ix ix_seq ixT_ok (pe_name 1) (pe_name 3) (fun _ _ => rfl))) (pss_one (ps_if (pt_cmp (op_eqD hu4) eqT_ok (pe_ix ix_seq ixT_ok (pe_name 4) (pe_int) (fun _ _ => rfl)) (pe_str) (by rfl)) (pss_one (ps_expr (pe_app 2 (pa_cons (pe_ix ix_seq ixT_ok (pe_name 4) (pe_int) (fun _ _ => rfl)) (pa_nil))))) (pss_one (ps_if (pt_cmp (op_eqD hu4) eqT_ok (pe_ix ix_seq ixT_ok (pe_name 4) (pe_int) (fun _ _ => rfl)) (pe_str) (by rfl)) (pss_one (ps_expr (pe_app 2 (pa_cons (pe_bin op_addT addT_ok (pe_str) (pe_callTy call_str_int textT_ok rfl M.str bt_str (pa_cons (pe_ix ix_seq ixT_ok (pe_name 4) (pe_int) (fun _ _ => rfl)) (pa_nil)))) (pa_nil))))) (pss_one (ps_if (pt_cmp (op_eqD hu4) eqT_ok (pe_ix ix_seq ixT_ok (pe_name 4) (pe_int) (fun _ _ => rfl)) (pe_str) (by rfl)) (pss_one (ps_expr (pe_app 2 (pa_cons (pe_str) (pa_nil))))) (pss_one (ps_if (pt_cmp (op_eqD hu4) eqT_ok (pe_ix ix_seq ixT_ok (pe_name 4) (pe_int) (fun _ _ => rfl)) (pe_str) (by rfl)) (pss_one (ps_expr (pe_app 2 (pa_cons (pe_bin op_addT addT_ok (pe_str) (pe_callTy call_str_int textT_ok rfl M.str bt_str (pa_cons (pe_ix ix_seq ixT_ok (pe_name 4) (pe_int) (fun _ _ => rfl)) (pa_nil)))) (pa_nil))))) (pss_one (ps_if (pt_cmp (op_eqD hu4) eqT_ok (pe_ix ix_seq ixT_ok (pe_name 4) (pe_int) (fun _ _ => rfl)) (pe_str) (by rfl)) (pss_one (ps_expr (pe_app 2 (pa_cons (pe_bin op_addT addT_ok (pe_bin op_addT addT_ok (pe_str) (pe_pop 2)) (pe_str)) (pa_nil))))) (pss_cons (ps_set 5 sc__law_form_text.nd (pe_pop 2)) (pss_cons (ps_set 6 sc__law_form_text.nd (pe_pop 2)) (pss_cons (ps_set 7 sc__law_form_text.nd (pe_str)) (pss_cons (ps_if (pt_cmp (op_eqD hu4) eqT_ok (pe_ix ix_seq ixT_ok (pe_name 4) (pe_int) (fun _ _ => rfl)) (pe_str) (by rfl)) (pss_one (ps_set 7 sc__law_form_text.nd (pe_str))) (pss_nil)) (pss_one (ps_expr (pe_app 2 (pa_cons (pe_bin op_addT addT_ok (pe_bin op_addT addT_ok (pe_bin op_addT addT_ok (pe_bin op_addT addT_ok (pe_str) (pe_name 5)) (pe_name 7)) (pe_name 6)) (pe_str)) (pa_nil))))))))))))))))))))) (pss_one (ps_ret (pe_ixN 2 (pe_int) (fun _ _ => rfl))))))
theorem sc__law_same : FnScope ["one", "two", "todo", "turn", "a", "b", "k"] ["one", "two"] (defScope f__law_same) := ⟨rfl, rfl, rfl, by decide +kernel, rfl, by decide +kernel, by decide +kernel⟩
theorem t__law_same {k : Nat} (M : Md P w K mg base) {cdv : Value} {A : Around} {outer : List Env} {s : Shared} {H : Hp} {E : XK} (hr : Room k (cxD P w K mg base ["one", "two", "todo", "turn", "a", "b", "k"] "_law_same" f__law_same cdv A outer s H E).A) (tk : Takes (cxD P w K mg base ["one", "two", "todo", "turn", "a", "b", "k"] "_law_same" f__law_same cdv A outer s H E) (wD E)) :
    PSst (cxD P w K mg base ["one", "two", "todo", "turn", "a", "b", "k"] "_law_same" f__law_same cdv A outer s H E) (wD E) (defBody f__law_same) (x__law_same) := by
  have hu : (cxD P w K mg base ["one", "two", "todo", "turn", "a", "b", "k"] "_law_same" f__law_same cdv A outer s H E).A.units + 65 < cLine := by have := hr.un; omega
  have hu4 : (cxD P w K mg base ["one", "two", "todo", "turn", "a", "b", "k"] "_law_same" f__law_same cdv A outer s H E).A.units + 64 < cLine := by have := hr.un; omega
  exact pss_cons (ps_set 2 sc__law_same.nd (pe_lst (pa_cons (pe_tup (pa_cons (pe_name 0) (pa_cons (pe_name 1) (pa_nil)))) (pa_nil)))) (pss_cons (ps_for (passes_of rfl) rfl (pi_range1 rfl M.range (pa_cons (pe_int) (pa_nil))) (pg_name 3 sc__law_same.nd) (pss_cons (ps_if (pt_bor (pt_cmp (op_eqD hu4) eqT_ok (pe_callB call_lenT lenT_ok rfl M.len bt_len (pa_cons (pe_name 2) (pa_nil))) (pe_int) (by rfl))) (pss_one (ps_ret (pe_bl))) (pss_nil)) (pss_cons (ps_asg (pe_pop 2) (pg_tup rfl (pgs_cons (pg_name 4 sc__law_same.nd) (pgs_cons (pg_name 5 sc__law_same.nd) (pgs_nil))))) (pss_one (ps_if (PWt.pt (pw_or (pt_cmp op_isN isNT_ok (pe_name 4) (pe_non) (by rfl)) (pw_or1 (pt_cmp op_isN isNT_ok (pe_name 5) (pe_non) (by rfl))))) (pss_one (ps_if (PWt.pt (pw_or (pt_cmp op_notN notNT_ok (pe_name 4) (pe_non) (by rfl)) (pw_or1 (pt_cmp op_notN notNT_ok (pe_name 5) (pe_non) (by rfl))))) (pss_one (ps_ret (pe_bl))) (pss_nil))) (pss_one (ps_if (pt_tru (pe_isi2 (c := .list) (d := .tuple) rfl M.isinstance rfl M.list bt_list rfl M.tuple bt_tuple (pe_name 4))) (pss_cons (ps_if (PWt.pt (pw_or (pt_not (pt_tru (pe_isi2 (c := .list) (d := .tuple) rfl M.isinstance rfl M.list bt_list rfl M.tuple bt_tuple (pe_name 5)))) (pw_or (pt_cmp (op_neD hu4) neT_ok (pe_isi (c := .list) rfl M.isinstance rfl M.list bt_list (pe_name 4)) (pe_isi (c := .list) rfl M.isinstance rfl M.list bt_list (pe_name 5)) (by rfl)) (pw_or1 (pt_cmp (op_neD hu4) neT_ok (pe_callB call_lenT lenT_ok rfl M.len bt_len (pa_cons (pe_name 4) (pa_nil))) (pe_callB call_lenT lenT_ok rfl M.len bt_len (pa_cons (pe_name 5) (pa_nil))) (by rfl)))))) (pss_one (ps_ret (pe_bl))) (pss_nil)) (pss_one (ps_for (passes_of rfl) rfl (pi_range1 rfl M.range (pa_cons (pe_callB call_lenT lenT_ok rfl M.len bt_len (pa_cons (pe_name 4) (pa_nil))) (pa_nil))) (pg_name 6 sc__law_same.nd) (pss_one (ps_expr (pe_app 2 (pa_cons (pe_tup (pa_cons (pe_ix ix_seq ixT_ok (pe_name 4) (pe_name 6) (fun _ _ => rfl)) (pa_cons (pe_ix ix_seq ixT_ok (pe_name 5) (pe_name 6) (fun _ _ => rfl)) (pa_nil)))) (pa_nil)))))))) (pss_one (ps_if (pt_tru (pe_isi (c := .str) rfl M.isinstance rfl M.str bt_str (pe_name 4))) (pss_one (ps_if (PWt.pt (pw_or (pt_not (pt_tru (pe_isi (c := .str) rfl M.isinstance rfl M.str bt_str (pe_name 5)))) (pw_or1 (pt_cmp (op_neD hu4) neT_ok (pe_name 4) (pe_name 5) (by rfl))))) (pss_one (ps_ret (pe_bl))) (pss_nil))) (pss_one (ps_if (pt_tru (pe_isi (c := .int) rfl M.isinstance rfl M.int bt_int (pe_name 4))) (pss_one (ps_if (PWt.pt (pw_or (pt_not (pt_tru (pe_isi (c := .int) rfl M.isinstance rfl M.int bt_int (pe_name 5)))) (pw_or (pt_cmp (op_neD hu4) neT_ok (pe_isi (c := .bool) rfl M.isinstance rfl M.bool bt_bool (pe_name 4)) (pe_isi (c := .bool) rfl M.isinstance rfl M.bool bt_bool (pe_name 5)) (by rfl)) (pw_or1 (pt_cmp (op_neD hu4) neT_ok (pe_name 4) (pe_name 5) (by rfl)))))) (pss_one (ps_ret (pe_bl))) (pss_nil))) (pss_one (ps_ret (pe_bl)))))))))))))) (pss_one (ps_ret (pe_bl))))
theorem sc__law_common : FnScope ["text", "at", "word", "many", "k"] ["text", "at", "word"] (defScope f__law_common) := ⟨rfl, rfl, rfl, by decide +kernel, rfl, by decide +kernel, by decide +kernel⟩
theorem t__law_common {k : Nat} (M : Md P w K mg base) {cdv : Value} {A : Around} {outer : List Env} {s : Shared} {H : Hp} {E : XK} (hr : Room k (cxD P w K mg base ["text", "at", "word", "many", "k"] "_law_common" f__law_common cdv A outer s H E).A) (tk : Takes (cxD P w K mg base ["text", "at", "word", "many", "k"] "_law_common" f__law_common cdv A outer s H E) (wD E)) :
    PSst (cxD P w K mg base ["text", "at", "word", "many", "k"] "_law_common" f__law_common cdv A outer s H E) (wD E) (defBody f__law_common) (x__law_common) := by
  have hu : (cxD P w K mg base ["text", "at", "word", "many", "k"] "_law_common" f__law_common cdv A outer s H E).A.units + 65 < cLine := by have := hr.un; omega
  have hu4 : (cxD P w K mg base ["text", "at", "word", "many", "k"] "_law_common" f__law_common cdv A outer s H E).A.units + 64 < cLine := by have := hr.un; omega
  exact pss_cons (ps_set 3 sc__law_common.nd (pe_int)) (pss_cons (ps_for (passes_of rfl) rfl (pi_range1 rfl M.range (pa_cons (pe_callB call_lenT lenT_ok rfl M.len bt_len (pa_cons (pe_name 2) (pa_nil))) (pa_nil))) (pg_name 4 sc__law_common.nd) (pss_cons (ps_if (pt_cmp (op_neD hu4) neT_ok (pe_slice (pe_name 0) (po_some (pe_bin op_addT addT_ok (pe_name 1) (pe_name 4))) (po_some (pe_bin op_addT addT_ok (pe_bin op_addT addT_ok (pe_name 1) (pe_name 4)) (pe_int)))) (pe_ix ix_seq ixT_ok (pe_name 2) (pe_name 4) (fun _ _ => rfl)) (by rfl)) (pss_one (ps_break)) (pss_nil)) (pss_one (ps_set 3 sc__law_common.nd (pe_bin op_addT addT_ok (pe_name 3) (pe_int)))))) (pss_one (ps_ret (pe_name 3))))
theorem sc__law_leaf_end : FnScope ["text", "at", "end", "sign"] ["text", "at"] (defScope f__law_leaf_end) := ⟨rfl, rfl, rfl, by decide +kernel, rfl, by decide +kernel, by decide +kernel⟩
theorem t__law_leaf_end {k : Nat} (M : Md P w K mg base) {cdv : Value} {A : Around} {outer : List Env} {s : Shared} {H : Hp} {E : XK} (hr : Room k (cxD P w K mg base ["text", "at", "end", "sign"] "_law_leaf_end" f__law_leaf_end cdv A outer s H E).A) (tk : Takes (cxD P w K mg base ["text", "at", "end", "sign"] "_law_leaf_end" f__law_leaf_end cdv A outer s H E) (wD E)) :
    PSst (cxD P w K mg base ["text", "at", "end", "sign"] "_law_leaf_end" f__law_leaf_end cdv A outer s H E) (wD E) (defBody f__law_leaf_end) (x__law_leaf_end) := by
  have hu : (cxD P w K mg base ["text", "at", "end", "sign"] "_law_leaf_end" f__law_leaf_end cdv A outer s H E).A.units + 65 < cLine := by have := hr.un; omega
  have hu4 : (cxD P w K mg base ["text", "at", "end", "sign"] "_law_leaf_end" f__law_leaf_end cdv A outer s H E).A.units + 64 < cLine := by have := hr.un; omega
  exact pss_cons (ps_set 2 sc__law_leaf_end.nd (pe_name 1)) (pss_cons (ps_if (pt_cmp (op_eqD hu4) eqT_ok (pe_slice (pe_name 0) (po_some (pe_name 1)) (po_some (pe_bin op_addT addT_ok (pe_name 1) (pe_int)))) (pe_str) (by rfl)) (pss_cons (ps_set 2 sc__law_leaf_end.nd (pe_bin op_addT addT_ok (pe_name 1) (pe_int))) (pss_cons (ps_for (passes_of rfl) rfl (pi_seq (pe_slice (pe_name 0) (po_some (pe_bin op_addT addT_ok (pe_name 1) (pe_int))) (po_some (pe_bin op_addT addT_ok (pe_name 1) (pe_int))))) (pg_name 3 sc__law_leaf_end.nd) (pss_cons (ps_if (PWt.pt (pw_or (pt_cmp op_notInSg sgnT_ok (pe_name 3) (pe_str) (by rfl)) (pw_or1 (pt_cmp (op_eqD hu4) eqT_ok (pe_slice (pe_name 0) (po_some (pe_bin op_addT addT_ok (pe_name 1) (pe_int))) (po_some (pe_name 2))) (pe_str) (by rfl))))) (pss_one (ps_break)) (pss_nil)) (pss_one (ps_set 2 sc__law_leaf_end.nd (pe_bin op_addT addT_ok (pe_name 2) (pe_int)))))) (pss_one (ps_ret (pe_name 2))))) (pss_nil)) (pss_cons (ps_for (passes_of rfl) rfl (pi_seq (pe_slice (pe_name 0) (po_some (pe_name 1)) (po_some (pe_bin op_addT addT_ok (pe_name 1) (pe_int))))) (pg_name 3 sc__law_leaf_end.nd) (pss_cons (ps_if (pt_cmp op_notInSg sgnT_ok (pe_name 3) (pe_str) (by rfl)) (pss_one (ps_break)) (pss_nil)) (pss_one (ps_set 2 sc__law_leaf_end.nd (pe_bin op_addT addT_ok (pe_name 2) (pe_int)))))) (pss_cons (ps_if (pt_cmp op_gt intT_ok (pe_name 2) (pe_name 1) (by rfl)) (pss_one (ps_for (passes_of rfl) rfl (pi_seq (pe_slice (pe_name 0) (po_some (pe_name 2)) (po_some (pe_bin op_addT addT_ok (pe_name 2) (pe_int))))) (pg_name 3 sc__law_leaf_end.nd) (pss_cons (ps_if (pt_cmp op_notInSg sgnT_ok (pe_name 3) (pe_str) (by rfl)) (pss_one (ps_break)) (pss_nil)) (pss_one (ps_set 2 sc__law_leaf_end.nd (pe_bin op_addT addT_ok (pe_name 2) (pe_int))))))) (pss_nil)) (pss_one (ps_ret (pe_name 2))))))
theorem sc__law_scan : FnScope ["text", "rows", "stack", "measures", "want", "at", "turn", "here", "end", "top", "words", "shared", "word"] ["text", "rows"] (defScope f__law_scan) := ⟨rfl, rfl, rfl, by decide +kernel, rfl, by decide +kernel, by decide +kernel⟩
theorem t__law_scan {k : Nat} (M : Md P w K mg base) {k__law_leaf_end : Nat} {g__law_leaf_end : PF} (F__law_leaf_end : Fn1 P w K mg base k__law_leaf_end "_law_leaf_end" ["text", "at"] (spP K g__law_leaf_end)) (hk__law_leaf_end : k__law_leaf_end ≤ k) {k__law_common : Nat} {g__law_common : PF} (F__law_common : Fn1 P w K mg base k__law_common "_law_common" ["text", "at", "word"] (spP K g__law_common)) (hk__law_common : k__law_common ≤ k) {cdv : Value} {A : Around} {outer : List Env} {s : Shared} {H : Hp} {E : XK} (hr : Room k (cxD P w K mg base ["text", "rows", "stack", "measures", "want", "at", "turn", "here", "end", "top", "words", "shared", "word"] "_law_scan" f__law_scan cdv A outer s H E).A) (tk : Takes (cxD P w K mg base ["text", "rows", "stack", "measures", "want", "at", "turn", "here", "end", "top", "words", "shared", "word"] "_law_scan" f__law_scan cdv A outer s H E) (wD E)) :
    PSst (cxD P w K mg base ["text", "rows", "stack", "measures", "want", "at", "turn", "here", "end", "top", "words", "shared", "word"] "_law_scan" f__law_scan cdv A outer s H E) (wD E) (defBody f__law_scan) (x__law_scan g__law_leaf_end g__law_common) := by
  have hu : (cxD P w K mg base ["text", "rows", "stack", "measures", "want", "at", "turn", "here", "end", "top", "words", "shared", "word"] "_law_scan" f__law_scan cdv A outer s H E).A.units + 65 < cLine := by have := hr.un; omega
  have hu4 : (cxD P w K mg base ["text", "rows", "stack", "measures", "want", "at", "turn", "here", "end", "top", "words", "shared", "word"] "_law_scan" f__law_scan cdv A outer s H E).A.units + 64 < cLine := by have := hr.un; omega
  exact pss_cons (ps_set 2 sc__law_scan.nd (pe_lst (pa_nil))) (pss_cons (ps_set 3 sc__law_scan.nd (pe_lst (pa_cons (pe_lst (pa_cons (pe_int) (pa_cons (pe_int) (pa_nil)))) (pa_nil)))) (pss_cons (ps_set 4 sc__law_scan.nd (pe_bl)) (pss_cons (ps_set 5 sc__law_scan.nd (pe_int)) (pss_cons (ps_for (passes_of rfl) rfl (pi_range1 rfl M.range (pa_cons (pe_bin op_addT addT_ok (pe_bin op_mulT mulT_ok (pe_int) (pe_callB call_lenT lenT_ok rfl M.len bt_len (pa_cons (pe_name 0) (pa_nil)))) (pe_int)) (pa_nil))) (pg_name 6 sc__law_scan.nd) (pss_cons (ps_take 3 7 sc__law_scan.nd (pe_neg (pe_int)) (fun _ _ => rfl)) (pss_one (ps_if (PWt.pt (pw_and (pt_tru (pe_name 4)) (pw_and1 (pt_cmp (op_inT hu) inT_ok (pe_slice (pe_name 0) (po_some (pe_name 5)) (po_some (pe_bin op_addT addT_ok (pe_name 5) (pe_int)))) (pe_lst (pa_cons (pe_str) (pa_cons (pe_str) (pa_nil)))) (by rfl))))) (pss_cons (ps_expr (pe_app 2 (pa_cons (pe_ix ix_seq ixT_ok (pe_name 0) (pe_name 5) (fun _ _ => rfl)) (pa_nil)))) (pss_cons (ps_set 5 sc__law_scan.nd (pe_bin op_addT addT_ok (pe_name 5) (pe_int))) (pss_cons (ps_asg (pe_bin op_addT addT_ok (pe_ixN 7 (pe_int) (fun _ _ => rfl)) (pe_int)) (pg_ixN 7 (pe_int))) (pss_one (ps_if (pt_bor (pt_cmp op_ge intT_ok (pe_callB call_lenT lenT_ok rfl M.len bt_len (pa_cons (pe_name 2) (pa_nil))) (pe_ix ix_seq ixT_ok (pe_name 7) (pe_int) (fun _ _ => rfl)) (by rfl))) (pss_cons (ps_asg (pe_bin op_addT addT_ok (pe_bor (pe_callB call_lenT lenT_ok rfl M.len bt_len (pa_cons (pe_name 2) (pa_nil)))) (pe_int)) (pg_ixN 7 (pe_int))) (pss_put 3 7 pss_nil)) (pss_put 3 7 pss_nil)))))) (pss_one (ps_if (pt_tru (pe_name 4)) (pss_cons (ps_set 8 sc__law_scan.nd (pe_call F__law_leaf_end (hr.mono hk__law_leaf_end) tk rfl (pa_cons (pe_name 0) (pa_cons (pe_name 5) (pa_nil))))) (pss_cons (ps_if (PWt.pt (pw_or (pt_cmp (op_eqD hu4) eqT_ok (pe_name 8) (pe_name 5) (by rfl)) (pw_or1 (pt_cmp (op_eqD hu4) eqT_ok (pe_slice (pe_name 0) (po_some (pe_name 5)) (po_some (pe_name 8))) (pe_str) (by rfl))))) (pss_put 3 7 (pss_one (ps_ret (pe_tup (pa_cons (pe_name 8) (pa_cons (pe_name 3) (pa_nil))))))) (pss_nil)) (pss_cons (ps_asg (pe_bin op_addT addT_ok (pe_ixN 7 (pe_int) (fun _ _ => rfl)) (pe_int)) (pg_ixN 7 (pe_int))) (pss_put 3 7 (pss_cons (ps_set 5 sc__law_scan.nd (pe_name 8)) (pss_one (ps_set 4 sc__law_scan.nd (pe_bl)))))))) (pss_put 3 7 (pss_one (ps_if (pt_bor (PWt.pt (pw_and (pt_cmp (op_eqD hu4) eqT_ok (pe_callB call_lenT lenT_ok rfl M.len bt_len (pa_cons (pe_name 2) (pa_nil))) (pe_int) (by rfl)) (pw_and1 (pt_cmp (op_eqD hu4) eqT_ok (pe_name 1) (pe_int) (by rfl)))))) (pss_one (ps_ret (pe_tup (pa_cons (pe_ix ix_seq ixT_ok (pe_lst (pa_cons (pe_name 5) (pa_cons (pe_neg (pe_int)) (pa_nil)))) (pe_callTy call_int1 toIntT_ok rfl M.int bt_int (pa_cons (pe_cmp (op_eqD hu4) eqT_ok (pe_name 5) (pe_callB call_lenT lenT_ok rfl M.len bt_len (pa_cons (pe_name 0) (pa_nil))) (by rfl)) (pa_nil))) (fun _ _ => rfl)) (pa_cons (pe_name 3) (pa_nil)))))) (pss_cons (ps_set 9 sc__law_scan.nd (pe_bor (pe_ix ix_seq ixT_ok (pe_bin op_addT addT_ok (pe_lst (pa_cons (pe_str) (pa_nil))) (pe_name 2)) (pe_neg (pe_int)) (fun _ _ => rfl)))) (pss_cons (ps_set 10 sc__law_scan.nd (pe_dix (by omega) (pe_dispA (ppt_cons L2.pe_str (pe_lst (pa_cons (pe_str) (pa_nil))) (ppt_cons L2.pe_str (pe_lst (pa_cons (pe_str) (pa_cons (pe_str) (pa_nil)))) (ppt_cons L2.pe_str (pe_lst (pa_cons (pe_str) (pa_nil))) (ppt_cons L2.pe_str (pe_lst (pa_cons (pe_str) (pa_nil))) (ppt_nil)))))) (pe_name 9) (fun _ _ => rfl))) (pss_cons (ps_setLc 11 (own := [("word", 12)]) rfl sc__law_scan.nd (pi_seq (pe_name 10)) (show BlkOk ["text", "rows", "stack", "measures", "want", "at", "turn", "here", "end", "top", "words", "shared", "word"] (defScope f__law_scan) _ _ from ⟨rfl, by decide +kernel, by decide +kernel, by decide +kernel, by decide +kernel⟩) (by decide) (fun _ _ _ _ _ => pg_name 12 sc__law_scan.nd) (fun _ _ _ _ _ => pts_nil) (fun _ _ _ _ _ => pe_call F__law_common (hr.mono hk__law_common) takes0 rfl (pa_cons (pe_name 0) (pa_cons (pe_name 5) (pa_cons (pe_name 12) (pa_nil)))))) (pss_cons (ps_set 12 sc__law_scan.nd (pe_ix ix_seq ixT_ok (pe_name 10) (pe_ix ix_seq ixT_ok (pe_lst (pa_cons (pe_int) (pa_cons (pe_bin op_sub1 subT_ok (pe_callB call_lenT lenT_ok rfl M.len bt_len (pa_cons (pe_name 10) (pa_nil))) (pe_int)) (pa_nil)))) (pe_callTy call_int1 toIntT_ok rfl M.int bt_int (pa_cons (pe_cmp op_gt intT_ok (pe_ix ix_seq ixT_ok (pe_name 11) (pe_neg (pe_int)) (fun _ _ => rfl)) (pe_ix ix_seq ixT_ok (pe_name 11) (pe_int) (fun _ _ => rfl)) (by rfl)) (pa_nil))) (fun _ _ => rfl)) (fun _ _ => rfl))) (pss_cons (ps_if (pt_cmp op_lt intT_ok (pe_ix ix_seq ixT_ok (pe_name 11) (pe_index (pe_name 10) (pe_name 12)) (fun _ _ => rfl)) (pe_callB call_lenT lenT_ok rfl M.len bt_len (pa_cons (pe_name 12) (pa_nil))) (by rfl)) (pss_one (ps_ret (pe_tup (pa_cons (pe_bin op_addT addT_ok (pe_name 5) (pe_ix ix_seq ixT_ok (pe_name 11) (pe_index (pe_name 10) (pe_name 12)) (fun _ _ => rfl))) (pa_cons (pe_name 3) (pa_nil)))))) (pss_nil)) (pss_cons (ps_set 5 sc__law_scan.nd (pe_bin op_addT addT_ok (pe_name 5) (pe_callB call_lenT lenT_ok rfl M.len bt_len (pa_cons (pe_name 12) (pa_nil))))) (pss_cons (ps_set 4 sc__law_scan.nd (pe_cmp op_gt intT_ok (pe_callB call_lenT lenT_ok rfl M.len bt_len (pa_cons (pe_name 12) (pa_nil))) (pe_int) (by rfl))) (pss_one (ps_if (pt_cmp (op_eqD hu4) eqT_ok (pe_name 9) (pe_str) (by rfl)) (pss_one (ps_asg (pe_str) (pg_ixN 2 (pe_neg (pe_int))))) (pss_one (ps_if (pt_cmp (op_eqD hu4) eqT_ok (pe_name 9) (pe_str) (by rfl)) (pss_cons (ps_set 1 sc__law_scan.nd (pe_int)) (pss_one (ps_expr (pe_app 3 (pa_cons (pe_lst (pa_cons (pe_int) (pa_cons (pe_int) (pa_nil)))) (pa_nil)))))) (pss_one (ps_expr (pe_pop 2))))))))))))))))))))))) (pss_one (ps_ret (pe_tup (pa_cons (pe_name 5) (pa_cons (pe_name 3) (pa_nil))))))))))
theorem sc__law_is_form : FnScope ["value", "todo", "turn", "part", "sign"] ["value"] (defScope f__law_is_form) := ⟨rfl, rfl, rfl, by decide +kernel, rfl, by decide +kernel, by decide +kernel⟩
theorem t__law_is_form {k : Nat} (M : Md P w K mg base) {cdv : Value} {A : Around} {outer : List Env} {s : Shared} {H : Hp} {E : XK} (hr : Room k (cxD P w K mg base ["value", "todo", "turn", "part", "sign"] "_law_is_form" f__law_is_form cdv A outer s H E).A) (tk : Takes (cxD P w K mg base ["value", "todo", "turn", "part", "sign"] "_law_is_form" f__law_is_form cdv A outer s H E) (wD E)) :
    PSst (cxD P w K mg base ["value", "todo", "turn", "part", "sign"] "_law_is_form" f__law_is_form cdv A outer s H E) (wD E) (defBody f__law_is_form) (x__law_is_form) := by
  have hu : (cxD P w K mg base ["value", "todo", "turn", "part", "sign"] "_law_is_form" f__law_is_form cdv A outer s H E).A.units + 65 < cLine := by have := hr.un; omega
  have hu4 : (cxD P w K mg base ["value", "todo", "turn", "part", "sign"] "_law_is_form" f__law_is_form cdv A outer s H E).A.units + 64 < cLine := by have := hr.un; omega
  exact pss_cons (ps_set 1 sc__law_is_form.nd (pe_lst (pa_cons (pe_name 0) (pa_nil)))) (pss_cons (ps_for (passes_of rfl) rfl (pi_range1 rfl M.range (pa_cons (pe_int) (pa_nil))) (pg_name 2 sc__law_is_form.nd) (pss_cons (ps_if (pt_bor (pt_cmp (op_eqD hu4) eqT_ok (pe_callB call_lenT lenT_ok rfl M.len bt_len (pa_cons (pe_name 1) (pa_nil))) (pe_int) (by rfl))) (pss_one (ps_ret (pe_bl))) (pss_nil)) (pss_cons (ps_set 3 sc__law_is_form.nd (pe_pop 1)) (pss_cons (ps_if (PWt.pt (pw_or (pt_not (pt_tru (pe_isi (c := .tuple) rfl M.isinstance rfl M.tuple bt_tuple (pe_name 3)))) (pw_or (pt_cmp op_lt intT_ok (pe_callB call_lenT lenT_ok rfl M.len bt_len (pa_cons (pe_name 3) (pa_nil))) (pe_int) (by rfl)) (pw_or1 (pt_not (pt_tru (pe_isi (c := .str) rfl M.isinstance rfl M.str bt_str (pe_ix ix_seq ixT_ok (pe_name 3) (pe_int) (fun _ _ => rfl))))))))) (pss_one (ps_ret (pe_bl))) (pss_nil)) (pss_one (ps_if (PWt.pt (pw_and (pt_cmp (op_eqD hu4) eqT_ok (pe_ix ix_seq ixT_ok (pe_name 3) (pe_int) (fun _ _ => rfl)) (pe_str) (by rfl)) (pw_and (pt_cmp (op_eqD hu4) eqT_ok (pe_callB call_lenT lenT_ok rfl M.len bt_len (pa_cons (pe_name 3) (pa_nil))) (pe_int) (by rfl)) (pw_and1 (pt_tru (pe_isi (c := .str) rfl M.isinstance rfl M.str bt_str (pe_ix ix_seq ixT_ok (pe_name 3) (pe_int) (fun _ _ => rfl)))))))) (pss_one (ps_if (pt_not (pt_tru (pe_callB (cr_all rfl) allT_ok rfl M.all bt_all (pa_cons (pe_lc (own := [("sign", 4)]) rfl sc__law_is_form.nd (pi_seq (pe_ix ix_seq ixT_ok (pe_name 3) (pe_int) (fun _ _ => rfl))) (show BlkOk ["value", "todo", "turn", "part", "sign"] (defScope f__law_is_form) _ _ from ⟨rfl, by decide +kernel, by decide +kernel, by decide +kernel, by decide +kernel⟩) (by decide) (fun _ _ _ _ _ => pg_name 4 sc__law_is_form.nd) (fun _ _ _ _ _ => pts_nil) (fun _ _ _ _ _ => pe_cmp op_inSg sgnT_ok (pe_name 4) (pe_str) (by rfl))) (pa_nil))))) (pss_one (ps_ret (pe_bl))) (pss_nil))) (pss_one (ps_if (PWt.pt (pw_and (pt_cmp (op_eqD hu4) eqT_ok (pe_ix ix_seq ixT_ok (pe_name 3) (pe_int) (fun _ _ => rfl)) (pe_str) (by rfl)) (pw_and1 (pt_cmp (op_eqD hu4) eqT_ok (pe_callB call_lenT lenT_ok rfl M.len bt_len (pa_cons (pe_name 3) (pa_nil))) (pe_int) (by rfl))))) (pss_one (ps_if (PWt.pt (pw_or (pt_not (pt_tru (pe_isi (c := .int) rfl M.isinstance rfl M.int bt_int (pe_ix ix_seq ixT_ok (pe_name 3) (pe_int) (fun _ _ => rfl))))) (pw_or1 (pt_tru (pe_isi (c := .bool) rfl M.isinstance rfl M.bool bt_bool (pe_ix ix_seq ixT_ok (pe_name 3) (pe_int) (fun _ _ => rfl))))))) (pss_one (ps_ret (pe_bl))) (pss_nil))) (pss_one (ps_if (pt_cmp (op_eqD hu4) eqT_ok (pe_callB call_lenT lenT_ok rfl M.len bt_len (pa_cons (pe_name 3) (pa_nil))) (pe_dget2T (by omega) (pe_disp (kvs := [("fn", 3), ("pair", 3), ("seal", 2)]) (L2.pps_cons L2.pe_str L2.pe_int (L2.pps_cons L2.pe_str L2.pe_int (L2.pps_cons L2.pe_str L2.pe_int (L2.pps_nil)))) (by decide)) (pe_ix ix_seq ixT_ok (pe_name 3) (pe_int) (fun _ _ => rfl)) (pe_int) ⟨rfl, rfl, rfl, rfl⟩) (by rfl)) (pss_one (ps_set 1 sc__law_is_form.nd (pe_bin op_addT addT_ok (pe_name 1) (pe_callTy call_list_of listT_ok rfl M.list bt_list (pa_cons (pe_slice (pe_name 3) (po_some (pe_int)) (po_none)) (pa_nil)))))) (pss_one (ps_ret (pe_bl))))))))))))) (pss_one (ps_ret (pe_bl))))
theorem sc__law_due : FnScope ["text", "rows", "at", "measures", "row"] ["text", "rows"] (defScope f__law_due) := ⟨rfl, rfl, rfl, by decide +kernel, rfl, by decide +kernel, by decide +kernel⟩
theorem t__law_due {k : Nat} (M : Md P w K mg base) {k__law_scan : Nat} {g__law_scan : PF} (F__law_scan : Fn1 P w K mg base k__law_scan "_law_scan" ["text", "rows"] (spP K g__law_scan)) (hk__law_scan : k__law_scan ≤ k) {cdv : Value} {A : Around} {outer : List Env} {s : Shared} {H : Hp} {E : XK} (hr : Room k (cxD P w K mg base ["text", "rows", "at", "measures", "row"] "_law_due" f__law_due cdv A outer s H E).A) (tk : Takes (cxD P w K mg base ["text", "rows", "at", "measures", "row"] "_law_due" f__law_due cdv A outer s H E) (wD E)) :
    PSst (cxD P w K mg base ["text", "rows", "at", "measures", "row"] "_law_due" f__law_due cdv A outer s H E) (wD E) (defBody f__law_due) (x__law_due07 g__law_scan) := by
  have hu : (cxD P w K mg base ["text", "rows", "at", "measures", "row"] "_law_due" f__law_due cdv A outer s H E).A.units + 65 < cLine := by have := hr.un; omega
  have hu4 : (cxD P w K mg base ["text", "rows", "at", "measures", "row"] "_law_due" f__law_due cdv A outer s H E).A.units + 64 < cLine := by have := hr.un; omega
  exact pss_cons (ps_asg (pe_call F__law_scan (hr.mono hk__law_scan) tk rfl (pa_cons (pe_name 0) (pa_cons (pe_name 1) (pa_nil)))) (pg_tup rfl (pgs_cons (pg_name 2 sc__law_due.nd) (pgs_cons (pg_name 3 sc__law_due.nd) (pgs_nil))))) (pss_cons (ps_if (pt_cmp op_ge intT_ok (pe_name 2) (pe_int) (by rfl)) (pss_one (ps_ret (pe_lst (pa_cons (pe_str) (pa_cons (pe_name 2) (pa_nil)))))) (pss_nil)) (pss_cons (ps_if (pt_tru (pe_callB (cr_any rfl) anyT_ok rfl M.any bt_any (pa_cons (pe_lc (own := [("row", 4)]) rfl sc__law_due.nd (pi_seq (pe_name 3)) (show BlkOk ["text", "rows", "at", "measures", "row"] (defScope f__law_due) _ _ from ⟨rfl, by decide +kernel, by decide +kernel, by decide +kernel, by decide +kernel⟩) (by decide) (fun _ _ _ _ _ => pg_name 4 sc__law_due.nd) (fun _ _ _ _ _ => pts_nil) (fun _ _ _ _ _ => pe_cmp op_gt intT_ok (pe_ix ix_seq ixT_ok (pe_name 4) (pe_int) (fun _ _ => rfl)) (pe_int) (by rfl))) (pa_nil)))) (pss_one (ps_ret (pe_lst (pa_cons (pe_str) (pa_cons (pe_int) (pa_nil)))))) (pss_nil)) (pss_cons (ps_if (pt_tru (pe_callB (cr_any rfl) anyT_ok rfl M.any bt_any (pa_cons (pe_lc (own := [("row", 4)]) rfl sc__law_due.nd (pi_seq (pe_name 3)) (show BlkOk ["text", "rows", "at", "measures", "row"] (defScope f__law_due) _ _ from ⟨rfl, by decide +kernel, by decide +kernel, by decide +kernel, by decide +kernel⟩) (by decide) (fun _ _ _ _ _ => pg_name 4 sc__law_due.nd) (fun _ _ _ _ _ => pts_nil) (fun _ _ _ _ _ => pe_cmp op_gt intT_ok (pe_ix ix_seq ixT_ok (pe_name 4) (pe_int) (fun _ _ => rfl)) (pe_int) (by rfl))) (pa_nil)))) (pss_one (ps_ret (pe_lst (pa_cons (pe_str) (pa_cons (pe_int) (pa_nil)))))) (pss_nil)) (pss_one (ps_ret (pe_lst (pa_cons (pe_str) (pa_cons (pe_name 0) (pa_nil)))))))))
theorem sc__law_told : FnScope ["text", "rows", "sides", "e", "flags", "told", "k", "side"] ["text", "rows"] (defScope f__law_told) := ⟨rfl, rfl, rfl, by decide +kernel, rfl, by decide +kernel, by decide +kernel⟩
theorem t__law_told {k : Nat} (M : Md P w K mg base) {k_read_form : Nat} {g_read_form : PF} (F_read_form : Fn1 P w K mg base k_read_form "read_form" ["text"] (spP K g_read_form)) (hk_read_form : k_read_form ≤ k) {k_read_row : Nat} {g_read_row : PF} (F_read_row : Fn1 P w K mg base k_read_row "read_row" ["text"] (spP K g_read_row)) (hk_read_row : k_read_row ≤ k) {k__law_is_form : Nat} {g__law_is_form : PF} (F__law_is_form : Fn1 P w K mg base k__law_is_form "_law_is_form" ["value"] (spP K g__law_is_form)) (hk__law_is_form : k__law_is_form ≤ k) {k__law_form_text : Nat} {g__law_form_text : PF} (F__law_form_text : Fn1 P w K mg base k__law_form_text "_law_form_text" ["form"] (spP K g__law_form_text)) (hk__law_form_text : k__law_form_text ≤ k) {cdv : Value} {A : Around} {outer : List Env} {s : Shared} {H : Hp} {E : XK} (hr : Room k (cxD P w K mg base ["text", "rows", "sides", "e", "flags", "told", "k", "side"] "_law_told" f__law_told cdv A outer s H E).A) (tk : Takes (cxD P w K mg base ["text", "rows", "sides", "e", "flags", "told", "k", "side"] "_law_told" f__law_told cdv A outer s H E) (wD E)) :
    PSst (cxD P w K mg base ["text", "rows", "sides", "e", "flags", "told", "k", "side"] "_law_told" f__law_told cdv A outer s H E) (wD E) (defBody f__law_told) (x__law_told07 g_read_form g_read_row g__law_is_form g__law_form_text (csK K clsN) (fun C => PySem.W.exmOne K (.ref C) (.ref (He.ga K "Trouble"))) (fun C n => PySem.W.kitOne K (.ref C) (.ref (He.ga K n))) (fun C => PySem.W.kitOne K (.ref C) (.type "ValueError"))) := by
  have hu : (cxD P w K mg base ["text", "rows", "sides", "e", "flags", "told", "k", "side"] "_law_told" f__law_told cdv A outer s H E).A.units + 65 < cLine := by have := hr.un; omega
  have hu4 : (cxD P w K mg base ["text", "rows", "sides", "e", "flags", "told", "k", "side"] "_law_told" f__law_told cdv A outer s H E).A.units + 64 < cLine := by have := hr.un; omega
  exact pss_cons (ps_tryAsC 3 sc__law_told.nd ⟨rfl, rfl, .inl M.c_Trouble⟩ tk (fun W2 pn xe tk psT => pss_one (ps_if (pt_cmp (op_eqD hu4) eqT_ok (pe_name 1) (pe_int) (by rfl)) (pss_one (ps_set 2 sc__law_told.nd (pe_tup (pa_cons (pe_call F_read_form (hr.mono hk_read_form) tk rfl (pa_cons (pe_name 0) (pa_nil))) (pa_nil))))) (pss_one (ps_set 2 sc__law_told.nd (pe_call F_read_row (hr.mono hk_read_row) tk rfl (pa_cons (pe_name 0) (pa_nil))))))) (fun a oe C d pn hC hz hf => pss_cons (ps_set 4 sc__law_told.nd (pe_lst (pa_cons (pe_isX (holds_suite hz hf) (M.xq C hC) rfl M.isinstance (L2.pe_glob (v := .ref (He.ga K "BadText")) rfl M.c_BadText rfl) (fun _ r => r) (pe_name 3)) (pa_cons (pe_isX (holds_suite hz hf) (M.xq C hC) rfl M.isinstance (L2.pe_glob (v := .ref (He.ga K "UnknownName")) rfl M.c_UnknownName rfl) (fun _ r => r) (pe_name 3)) (pa_cons (pe_isX (holds_suite hz hf) (M.xq C hC) rfl M.isinstance (L2.pe_glob (v := .ref (He.ga K "Twice")) rfl M.c_Twice rfl) (fun _ r => r) (pe_name 3)) (pa_cons (pe_isX (holds_suite hz hf) (M.xq C hC) rfl M.isinstance (L2.pe_glob (v := .ref (He.ga K "Circle")) rfl M.c_Circle rfl) (fun _ r => r) (pe_name 3)) (pa_nil))))))) (pss_cons (ps_set 4 sc__law_told.nd (pe_bin op_addT addT_ok (pe_name 4) (pe_lst (pa_cons (pe_isX (holds_suite hz hf) (M.xq C hC) rfl M.isinstance (L2.pe_glob (v := .ref (He.ga K "BadRow")) rfl M.c_BadRow rfl) (fun _ r => r) (pe_name 3)) (pa_cons (pe_isX (holds_suite hz hf) (M.xq C hC) rfl M.isinstance (L2.pe_glob (v := .ref (He.ga K "NotThere")) rfl M.c_NotThere rfl) (fun _ r => r) (pe_name 3)) (pa_cons (pe_isX (holds_suite hz hf) (M.xq C hC) rfl M.isinstance (L2.pe_glob (v := .ref (He.ga K "TooDeep")) rfl M.c_TooDeep rfl) (fun _ r => r) (pe_name 3)) (pa_cons (pe_isX (holds_suite hz hf) (M.xq C hC) rfl M.isinstance (L2.pe_glob (v := .ref (He.ga K "TooBig")) rfl M.c_TooBig rfl) (fun _ r => r) (pe_name 3)) (pa_nil)))))))) (pss_cons (ps_set 4 sc__law_told.nd (pe_bin op_addT addT_ok (pe_name 4) (pe_lst (pa_cons (pe_isX (holds_suite hz hf) (M.xq C hC) rfl M.isinstance (L2.pe_glob (v := .ref (He.ga K "NoMeaning")) rfl M.c_NoMeaning rfl) (fun _ r => r) (pe_name 3)) (pa_cons (pe_isX (holds_suite hz hf) (M.xq C hC) rfl M.isinstance (L2.pe_glob (v := .ref (He.ga K "NoSolution")) rfl M.c_NoSolution rfl) (fun _ r => r) (pe_name 3)) (pa_cons (pe_isX (holds_suite hz hf) (M.xq C hC) rfl M.isinstance (L2.pe_glob (v := .ref (He.ga K "Rough")) rfl M.c_Rough rfl) (fun _ r => r) (pe_name 3)) (pa_nil))))))) (pss_cons (ps_set 4 sc__law_told.nd (pe_bin op_addT addT_ok (pe_name 4) (pe_lst (pa_cons (pe_isX (holds_suite hz hf) (M.xq C hC) rfl M.isinstance (L2.pe_glob (v := .ref (He.ga K "InUse")) rfl M.c_InUse rfl) (fun _ r => r) (pe_name 3)) (pa_cons (pe_isX (holds_suite hz hf) (M.xq C hC) rfl M.isinstance (L2.pe_glob (v := .ref (He.ga K "TooWide")) rfl M.c_TooWide rfl) (fun _ r => r) (pe_name 3)) (pa_cons (pe_isX (holds_suite hz hf) (M.xq C hC) rfl M.isinstance (L2.pe_glob (v := .ref (He.ga K "Stuck")) rfl M.c_Stuck rfl) (fun _ r => r) (pe_name 3)) (pa_cons (pe_isX (holds_suite hz hf) (M.xq C hC) rfl M.isinstance (L2.pe_glob (v := .ref (He.ga K "TooLong")) rfl M.c_TooLong rfl) (fun _ r => r) (pe_name 3)) (pa_nil)))))))) (pss_cons (ps_setLcH 5 (own := [("k", 6)]) (hotP_suite hz hf) sc__law_told.nd rfl M.range (pa_cons (pe_int) (pa_nil)) (show BlkOk ["text", "rows", "sides", "e", "flags", "told", "k", "side"] (defScope f__law_told) _ _ from ⟨rfl, by decide +kernel, by decide +kernel, by decide +kernel, by decide +kernel⟩) (by decide) (fun _ _ _ _ _ => pg_name 6 sc__law_told.nd) (fun _ _ _ _ _ => pts_one (PWt.pt (pw_and (pt_tru (pe_ix ix_seq ixT_ok (pe_name 4) (pe_name 6) (fun _ _ => rfl))) (pw_and1 (pt_tru (pe_isX (holds_suite hz hf) (M.xq C hC) rfl M.isinstance (pe_bltn (v := .ty "ValueError") rfl M.ValueError bt_ValueError rfl) (fun _ r => r) (pe_name 3))))))) (fun _ _ _ _ _ => pe_name 6)) (pss_cons (ps_if (pt_cmp (op_eqD hu4) eqT_ok (pe_name 5) (pe_lst (pa_cons (pe_int) (pa_nil))) (by rfl)) (pss_one (ps_ret (pe_lst (pa_cons (pe_str) (pa_cons (pe_fld (M.xf C hC) (M.xn C hC "at" (by decide)) hz hf (pe_name 3)) (pa_nil)))))) (pss_nil)) (pss_cons (ps_if (pt_cmp (op_eqD hu4) eqT_ok (pe_name 5) (pe_lst (pa_cons (pe_int) (pa_nil))) (by rfl)) (pss_one (ps_ret (pe_lst (pa_cons (pe_str) (pa_cons (pe_fld (M.xf C hC) (M.xn C hC "limit" (by decide)) hz hf (pe_name 3)) (pa_nil)))))) (pss_nil)) (pss_cons (ps_if (pt_cmp (op_eqD hu4) eqT_ok (pe_name 5) (pe_lst (pa_cons (pe_int) (pa_nil))) (by rfl)) (pss_one (ps_ret (pe_lst (pa_cons (pe_str) (pa_cons (pe_fld (M.xf C hC) (M.xn C hC "limit" (by decide)) hz hf (pe_name 3)) (pa_nil)))))) (pss_nil)) (pss_one (ps_ret (pe_lst (pa_cons (pe_str) (pa_cons (pe_name 5) (pa_nil))))))))))))))) (pss_cons (ps_if (PWt.pt (pw_or (pt_not (pt_tru (pe_isi (c := .tuple) rfl M.isinstance rfl M.tuple bt_tuple (pe_name 2)))) (pw_or (pt_cmp (op_neD hu4) neT_ok (pe_callB call_lenT lenT_ok rfl M.len bt_len (pa_cons (pe_name 2) (pa_nil))) (pe_bin op_addT addT_ok (pe_int) (pe_name 1)) (by rfl)) (pw_or1 (pt_not (pt_tru (pe_callB (cr_all rfl) allT_ok rfl M.all bt_all (pa_cons (pe_lc (own := [("side", 7)]) rfl sc__law_told.nd (pi_seq (pe_name 2)) (show BlkOk ["text", "rows", "sides", "e", "flags", "told", "k", "side"] (defScope f__law_told) _ _ from ⟨rfl, by decide +kernel, by decide +kernel, by decide +kernel, by decide +kernel⟩) (by decide) (fun _ _ _ _ _ => pg_name 7 sc__law_told.nd) (fun _ _ _ _ _ => pts_nil) (fun _ _ _ _ _ => pe_call F__law_is_form (hr.mono hk__law_is_form) takes0 rfl (pa_cons (pe_name 7) (pa_nil)))) (pa_nil))))))))) (pss_one (ps_ret (pe_lst (pa_cons (pe_str) (pa_cons (pe_non) (pa_nil)))))) (pss_nil)) (pss_one (ps_ret (pe_lst (pa_cons (pe_str) (pa_cons (pe_joinT (pe_str) (pe_lc (own := [("side", 7)]) rfl sc__law_told.nd (pi_seq (pe_name 2)) (show BlkOk ["text", "rows", "sides", "e", "flags", "told", "k", "side"] (defScope f__law_told) _ _ from ⟨rfl, by decide +kernel, by decide +kernel, by decide +kernel, by decide +kernel⟩) (by decide) (fun _ _ _ _ _ => pg_name 7 sc__law_told.nd) (fun _ _ _ _ _ => pts_nil) (fun _ _ _ _ _ => pe_call F__law_form_text (hr.mono hk__law_form_text) takes0 rfl (pa_cons (pe_name 7) (pa_nil))))) (pa_nil)))))))
theorem sc__law_spoilt : FnScope ["store", "text", "signs", "sign", "at", "out"] ["store", "text"] (defScope f__law_spoilt) := ⟨rfl, rfl, rfl, by decide +kernel, rfl, by decide +kernel, by decide +kernel⟩
theorem t__law_spoilt {k : Nat} (M : Md P w K mg base) {k__law_pick : Nat} {g__law_pick : IF} (F__law_pick : Fn1 P w K mg base k__law_pick "_law_pick" ["store", "things"] (spI K g__law_pick)) (hk__law_pick : k__law_pick ≤ k) {k__law_amount : Nat} {g__law_amount : IF} (F__law_amount : Fn1 P w K mg base k__law_amount "_law_amount" ["store", "low", "high"] (spI K g__law_amount)) (hk__law_amount : k__law_amount ≤ k) {cdv : Value} {A : Around} {outer : List Env} {s : Shared} {H : Hp} {E : XK} (hr : Room k (cxD P w K mg base ["store", "text", "signs", "sign", "at", "out"] "_law_spoilt" f__law_spoilt cdv A outer s H E).A) (tk : Takes (cxD P w K mg base ["store", "text", "signs", "sign", "at", "out"] "_law_spoilt" f__law_spoilt cdv A outer s H E) (wD E)) :
    PSst (cxD P w K mg base ["store", "text", "signs", "sign", "at", "out"] "_law_spoilt" f__law_spoilt cdv A outer s H E) (wD E) (defBody f__law_spoilt) (x__law_spoilt g__law_pick g__law_amount) := by
  have hu : (cxD P w K mg base ["store", "text", "signs", "sign", "at", "out"] "_law_spoilt" f__law_spoilt cdv A outer s H E).A.units + 65 < cLine := by have := hr.un; omega
  have hu4 : (cxD P w K mg base ["store", "text", "signs", "sign", "at", "out"] "_law_spoilt" f__law_spoilt cdv A outer s H E).A.units + 64 < cLine := by have := hr.un; omega
  exact pss_cons (ps_set 2 sc__law_spoilt.nd (pe_str)) (pss_cons (ps_set 3 sc__law_spoilt.nd (pe_callI 0 F__law_pick (hr.mono hk__law_pick) tk rfl (pa_cons (pe_lst (pa_cons (pe_callI 0 F__law_pick (hr.mono hk__law_pick) tk rfl (pa_cons (pe_name 2) (pa_nil))) (pa_cons (pe_callI 0 F__law_pick (hr.mono hk__law_pick) tk rfl (pa_cons (pe_str) (pa_nil))) (pa_nil)))) (pa_nil)))) (pss_cons (ps_set 4 sc__law_spoilt.nd (pe_callI 0 F__law_amount (hr.mono hk__law_amount) tk rfl (pa_cons (pe_int) (pa_cons (pe_callB call_lenT lenT_ok rfl M.len bt_len (pa_cons (pe_name 1) (pa_nil))) (pa_nil))))) (pss_cons (ps_set 5 sc__law_spoilt.nd (pe_lst (pa_cons (pe_slice (pe_name 1) (po_none) (po_some (pe_name 4))) (pa_cons (pe_bin op_addT addT_ok (pe_slice (pe_name 1) (po_none) (po_some (pe_name 4))) (pe_slice (pe_name 1) (po_some (pe_bin op_addT addT_ok (pe_name 4) (pe_int))) (po_none))) (pa_cons (pe_bin op_addT addT_ok (pe_bin op_addT addT_ok (pe_slice (pe_name 1) (po_none) (po_some (pe_name 4))) (pe_name 3)) (pe_slice (pe_name 1) (po_some (pe_name 4)) (po_none))) (pa_cons (pe_bin op_addT addT_ok (pe_bin op_addT addT_ok (pe_slice (pe_name 1) (po_none) (po_some (pe_name 4))) (pe_name 3)) (pe_slice (pe_name 1) (po_some (pe_bin op_addT addT_ok (pe_name 4) (pe_int))) (po_none))) (pa_nil))))))) (pss_cons (ps_expr (pe_app 5 (pa_cons (pe_bin op_addT addT_ok (pe_bin op_addT addT_ok (pe_slice (pe_name 1) (po_none) (po_some (pe_name 4))) (pe_slice (pe_name 1) (po_some (pe_name 4)) (po_some (pe_bin op_addT addT_ok (pe_name 4) (pe_int))))) (pe_slice (pe_name 1) (po_some (pe_name 4)) (po_none))) (pa_nil)))) (pss_cons (ps_expr (pe_app 5 (pa_cons (pe_bin op_addT addT_ok (pe_bin op_addT addT_ok (pe_bin op_addT addT_ok (pe_slice (pe_name 1) (po_none) (po_some (pe_name 4))) (pe_slice (pe_name 1) (po_some (pe_bin op_addT addT_ok (pe_name 4) (pe_int))) (po_some (pe_bin op_addT addT_ok (pe_name 4) (pe_int))))) (pe_slice (pe_name 1) (po_some (pe_name 4)) (po_some (pe_bin op_addT addT_ok (pe_name 4) (pe_int))))) (pe_slice (pe_name 1) (po_some (pe_bin op_addT addT_ok (pe_name 4) (pe_int))) (po_none))) (pa_nil)))) (pss_one (ps_ret (pe_callI 0 F__law_pick (hr.mono hk__law_pick) tk rfl (pa_cons (pe_name 5) (pa_nil))))))))))
theorem sc__law_made : FnScope ["store", "kinds", "many", "form", "leaf"] ["store", "kinds", "many"] (defScope f__law_made) := ⟨rfl, rfl, rfl, by decide +kernel, rfl, by decide +kernel, by decide +kernel⟩
theorem t__law_made {k : Nat} (M : Md P w K mg base) {k__law_form : Nat} {g__law_form : IF} (F__law_form : Fn1 P w K mg base k__law_form "_law_form" ["store", "kinds", "many", "steps"] (spI K g__law_form)) (hk__law_form : k__law_form ≤ k) {k__law_take : Nat} {g__law_take : IF} (F__law_take : Fn1 P w K mg base k__law_take "_law_take" ["store", "many"] (spI K g__law_take)) (hk__law_take : k__law_take ≤ k) {k__law_leaf : Nat} {g__law_leaf : IF} (F__law_leaf : Fn1 P w K mg base k__law_leaf "_law_leaf" ["store", "kinds", "many"] (spI K g__law_leaf)) (hk__law_leaf : k__law_leaf ≤ k) {k__law_deep_form : Nat} {g__law_deep_form : IF} (F__law_deep_form : Fn1 P w K mg base k__law_deep_form "_law_deep_form" ["store", "leaf", "depth"] (spI K g__law_deep_form)) (hk__law_deep_form : k__law_deep_form ≤ k) {k__law_wide_form : Nat} {g__law_wide_form : IF} (F__law_wide_form : Fn1 P w K mg base k__law_wide_form "_law_wide_form" ["store", "leaf", "nodes"] (spI K g__law_wide_form)) (hk__law_wide_form : k__law_wide_form ≤ k) {cdv : Value} {A : Around} {outer : List Env} {s : Shared} {H : Hp} {E : XK} (hr : Room k (cxD P w K mg base ["store", "kinds", "many", "form", "leaf"] "_law_made" f__law_made cdv A outer s H E).A) (tk : Takes (cxD P w K mg base ["store", "kinds", "many", "form", "leaf"] "_law_made" f__law_made cdv A outer s H E) (wD E)) :
    PSst (cxD P w K mg base ["store", "kinds", "many", "form", "leaf"] "_law_made" f__law_made cdv A outer s H E) (wD E) (defBody f__law_made) (x__law_made g__law_form g__law_take g__law_leaf g__law_deep_form g__law_wide_form) := by
  have hu : (cxD P w K mg base ["store", "kinds", "many", "form", "leaf"] "_law_made" f__law_made cdv A outer s H E).A.units + 65 < cLine := by have := hr.un; omega
  have hu4 : (cxD P w K mg base ["store", "kinds", "many", "form", "leaf"] "_law_made" f__law_made cdv A outer s H E).A.units + 64 < cLine := by have := hr.un; omega
  exact pss_cons (ps_set 3 sc__law_made.nd (pe_callI 0 F__law_form (hr.mono hk__law_form) tk rfl (pa_cons (pe_name 1) (pa_cons (pe_name 2) (pa_cons (pe_bin op_addT addT_ok (pe_int) (pe_callI 0 F__law_take (hr.mono hk__law_take) tk rfl (pa_cons (pe_int) (pa_nil)))) (pa_nil)))))) (pss_cons (ps_set 4 sc__law_made.nd (pe_callI 0 F__law_leaf (hr.mono hk__law_leaf) tk rfl (pa_cons (pe_name 1) (pa_cons (pe_name 2) (pa_nil))))) (pss_cons (ps_if (pt_cmp (op_eqD hu4) eqT_ok (pe_callI 0 F__law_take (hr.mono hk__law_take) tk rfl (pa_cons (pe_int) (pa_nil))) (pe_int) (by rfl)) (pss_one (ps_set 3 sc__law_made.nd (pe_callI 0 F__law_deep_form (hr.mono hk__law_deep_form) tk rfl (pa_cons (pe_name 4) (pa_cons (pe_ix ix_seq ixT_ok (pe_lst (pa_cons (pe_int) (pa_cons (pe_int) (pa_cons (pe_int) (pa_cons (pe_int) (pa_cons (pe_bin op_addT addT_ok (pe_int) (pe_callI 0 F__law_take (hr.mono hk__law_take) tk rfl (pa_cons (pe_int) (pa_nil)))) (pa_nil))))))) (pe_callI 0 F__law_take (hr.mono hk__law_take) tk rfl (pa_cons (pe_int) (pa_nil))) (fun _ _ => rfl)) (pa_nil)))))) (pss_one (ps_if (pt_cmp (op_eqD hu4) eqT_ok (pe_callI 0 F__law_take (hr.mono hk__law_take) tk rfl (pa_cons (pe_int) (pa_nil))) (pe_int) (by rfl)) (pss_one (ps_set 3 sc__law_made.nd (pe_callI 0 F__law_wide_form (hr.mono hk__law_wide_form) tk rfl (pa_cons (pe_name 4) (pa_cons (pe_ix ix_seq ixT_ok (pe_lst (pa_cons (pe_int) (pa_cons (pe_int) (pa_cons (pe_int) (pa_cons (pe_int) (pa_cons (pe_int) (pa_nil))))))) (pe_callI 0 F__law_take (hr.mono hk__law_take) tk rfl (pa_cons (pe_int) (pa_nil))) (fun _ _ => rfl)) (pa_nil)))))) (pss_nil)))) (pss_one (ps_ret (pe_name 3)))))
theorem sc_law : FnScope ["script", "store", "tails", "kinds", "turn", "many", "row", "texts", "side", "text", "asked", "signs", "rows"] ["script"] (defScope f_law) := ⟨rfl, rfl, rfl, by decide +kernel, rfl, by decide +kernel, by decide +kernel⟩
theorem t_law {k : Nat} (M : Md P w K mg base) {k__law_store : Nat} {g__law_store : PF} (F__law_store : Fn1 P w K mg base k__law_store "_law_store" ["script"] (spP K g__law_store)) (hk__law_store : k__law_store ≤ k) {k__law_letters : Nat} {g__law_letters : IF} (F__law_letters : Fn1 P w K mg base k__law_letters "_law_letters" ["store", "many"] (spI K g__law_letters)) (hk__law_letters : k__law_letters ≤ k) {k__law_take : Nat} {g__law_take : IF} (F__law_take : Fn1 P w K mg base k__law_take "_law_take" ["store", "many"] (spI K g__law_take)) (hk__law_take : k__law_take ≤ k) {k__law_pick : Nat} {g__law_pick : IF} (F__law_pick : Fn1 P w K mg base k__law_pick "_law_pick" ["store", "things"] (spI K g__law_pick)) (hk__law_pick : k__law_pick ≤ k) {k__law_made : Nat} {g__law_made : IF} (F__law_made : Fn1 P w K mg base k__law_made "_law_made" ["store", "kinds", "many"] (spI K g__law_made)) (hk__law_made : k__law_made ≤ k) {k__law_form_text : Nat} {g__law_form_text : PF} (F__law_form_text : Fn1 P w K mg base k__law_form_text "_law_form_text" ["form"] (spP K g__law_form_text)) (hk__law_form_text : k__law_form_text ≤ k) {k__law_scan : Nat} {g__law_scan : PF} (F__law_scan : Fn1 P w K mg base k__law_scan "_law_scan" ["text", "rows"] (spP K g__law_scan)) (hk__law_scan : k__law_scan ≤ k) {k__law_same : Nat} {g__law_same : PF} (F__law_same : Fn1 P w K mg base k__law_same "_law_same" ["one", "two"] (spP K g__law_same)) (hk__law_same : k__law_same ≤ k) {k_show_row : Nat} {g_show_row : PF} (F_show_row : Fn1 P w K mg base k_show_row "show_row" ["row"] (spP K g_show_row)) (hk_show_row : k_show_row ≤ k) {k_show_form : Nat} {g_show_form : PF} (F_show_form : Fn1 P w K mg base k_show_form "show_form" ["form"] (spP K g_show_form)) (hk_show_form : k_show_form ≤ k) {k__law_spoilt : Nat} {g__law_spoilt : IF} (F__law_spoilt : Fn1 P w K mg base k__law_spoilt "_law_spoilt" ["store", "text"] (spI K g__law_spoilt)) (hk__law_spoilt : k__law_spoilt ≤ k) {k__law_due : Nat} {g__law_due : PF} (F__law_due : Fn1 P w K mg base k__law_due "_law_due" ["text", "rows"] (spP K g__law_due)) (hk__law_due : k__law_due ≤ k) {k__law_told : Nat} {g__law_told : PF} (F__law_told : Fn1 P w K mg base k__law_told "_law_told" ["text", "rows"] (spP K g__law_told)) (hk__law_told : k__law_told ≤ k) {cdv : Value} {A : Around} {outer : List Env} {s : Shared} {H : Hp} {E : XK} (hr : Room k (cxD P w K mg base ["script", "store", "tails", "kinds", "turn", "many", "row", "texts", "side", "text", "asked", "signs", "rows"] "law" f_law cdv A outer s H E).A) (tk : Takes (cxD P w K mg base ["script", "store", "tails", "kinds", "turn", "many", "row", "texts", "side", "text", "asked", "signs", "rows"] "law" f_law cdv A outer s H E) (wD E)) :
    PSst (cxD P w K mg base ["script", "store", "tails", "kinds", "turn", "many", "row", "texts", "side", "text", "asked", "signs", "rows"] "law" f_law cdv A outer s H E) (wD E) (defBody f_law) (x_law07 g__law_store g__law_letters g__law_take g__law_pick g__law_made g__law_form_text g__law_scan g__law_same g_show_row g_show_form g__law_spoilt g__law_due g__law_told) := by
  have hu : (cxD P w K mg base ["script", "store", "tails", "kinds", "turn", "many", "row", "texts", "side", "text", "asked", "signs", "rows"] "law" f_law cdv A outer s H E).A.units + 65 < cLine := by have := hr.un; omega
  have hu4 : (cxD P w K mg base ["script", "store", "tails", "kinds", "turn", "many", "row", "texts", "side", "text", "asked", "signs", "rows"] "law" f_law cdv A outer s H E).A.units + 64 < cLine := by have := hr.un; omega
  exact pss_cons (ps_set 1 sc_law.nd (pe_call F__law_store (hr.mono hk__law_store) tk rfl (pa_cons (pe_name 0) (pa_nil)))) (pss_cons (ps_set 2 sc_law.nd (pe_lst (pa_cons (pe_str) (pa_cons (pe_str) (pa_cons (pe_str) (pa_cons (pe_str) (pa_cons (pe_str) (pa_nil)))))))) (pss_cons (ps_setLc 3 (own := [("turn", 4)]) rfl sc_law.nd (pi_range1 rfl M.range (pa_cons (pe_int) (pa_nil))) (show BlkOk ["script", "store", "tails", "kinds", "turn", "many", "row", "texts", "side", "text", "asked", "signs", "rows"] (defScope f_law) _ _ from ⟨rfl, by decide +kernel, by decide +kernel, by decide +kernel, by decide +kernel⟩) (by decide) (fun _ _ _ _ _ => pg_name 4 sc_law.nd) (fun _ _ _ _ _ => pts_nil) (fun _ _ _ _ _ => pe_bin op_addT addT_ok (pe_callI 1 F__law_letters (hr.mono hk__law_letters) takes0 rfl (pa_cons (pe_bin op_addT addT_ok (pe_int) (pe_callI 1 F__law_take (hr.mono hk__law_take) takes0 rfl (pa_cons (pe_int) (pa_nil)))) (pa_nil))) (pe_callI 1 F__law_pick (hr.mono hk__law_pick) takes0 rfl (pa_cons (pe_name 2) (pa_nil))))) (pss_cons (ps_set 5 sc_law.nd (pe_callI 1 F__law_pick (hr.mono hk__law_pick) tk rfl (pa_cons (pe_lst (pa_cons (pe_int) (pa_cons (pe_int) (pa_cons (pe_int) (pa_nil))))) (pa_nil)))) (pss_cons (ps_set 6 sc_law.nd (pe_tup (pa_cons (pe_callI 1 F__law_made (hr.mono hk__law_made) tk rfl (pa_cons (pe_name 3) (pa_cons (pe_name 5) (pa_nil)))) (pa_cons (pe_callI 1 F__law_made (hr.mono hk__law_made) tk rfl (pa_cons (pe_name 3) (pa_cons (pe_name 5) (pa_nil)))) (pa_nil))))) (pss_cons (ps_setLc 7 (own := [("side", 8)]) rfl sc_law.nd (pi_seq (pe_name 6)) (show BlkOk ["script", "store", "tails", "kinds", "turn", "many", "row", "texts", "side", "text", "asked", "signs", "rows"] (defScope f_law) _ _ from ⟨rfl, by decide +kernel, by decide +kernel, by decide +kernel, by decide +kernel⟩) (by decide) (fun _ _ _ _ _ => pg_name 8 sc_law.nd) (fun _ _ _ _ _ => pts_nil) (fun _ _ _ _ _ => pe_call F__law_form_text (hr.mono hk__law_form_text) takes0 rfl (pa_cons (pe_name 8) (pa_nil)))) (pss_cons (ps_expr (pe_app 7 (pa_cons (pe_bin op_addT addT_ok (pe_bin op_addT addT_ok (pe_ixN 7 (pe_int) (fun _ _ => rfl)) (pe_str)) (pe_ixN 7 (pe_int) (fun _ _ => rfl))) (pa_nil)))) (pss_cons (ps_if (pt_bor (pt_tru (pe_callB (cr_all rfl) allT_ok rfl M.all bt_all (pa_cons (pe_lc (own := [("text", 9)]) rfl sc_law.nd (pi_seq (pe_slice (pe_name 7) (po_none) (po_some (pe_int)))) (show BlkOk ["script", "store", "tails", "kinds", "turn", "many", "row", "texts", "side", "text", "asked", "signs", "rows"] (defScope f_law) _ _ from ⟨rfl, by decide +kernel, by decide +kernel, by decide +kernel, by decide +kernel⟩) (by decide) (fun _ _ _ _ _ => pg_name 9 sc_law.nd) (fun _ _ _ _ _ => pts_nil) (fun _ _ _ _ _ => pe_cmp op_lt intT_ok (pe_ix ix_seq ixT_ok (pe_ix ix_seq ixT_ok (pe_ix ix_seq ixT_ok (pe_call F__law_scan (hr.mono hk__law_scan) takes0 rfl (pa_cons (pe_name 9) (pa_cons (pe_int) (pa_nil)))) (pe_int) (fun _ _ => rfl)) (pe_int) (fun _ _ => rfl)) (pe_int) (fun _ _ => rfl)) (pe_int) (by rfl))) (pa_nil))))) (pss_one (ps_if (pt_bor (pt_not (pt_tru (pe_call F__law_same (hr.mono hk__law_same) tk rfl (pa_cons (pe_lst (pa_cons (pe_call F_show_form (hr.mono hk_show_form) tk rfl (pa_cons (pe_ix ix_seq ixT_ok (pe_name 6) (pe_int) (fun _ _ => rfl)) (pa_nil))) (pa_cons (pe_call F_show_form (hr.mono hk_show_form) tk rfl (pa_cons (pe_ix ix_seq ixT_ok (pe_name 6) (pe_int) (fun _ _ => rfl)) (pa_nil))) (pa_cons (pe_call F_show_row (hr.mono hk_show_row) tk rfl (pa_cons (pe_name 6) (pa_nil))) (pa_nil))))) (pa_cons (pe_name 7) (pa_nil))))))) (pss_one (ps_ret (pe_bl))) (pss_nil))) (pss_nil)) (pss_cons (ps_set 10 sc_law.nd (pe_callTy call_list_of listT_ok rfl M.list bt_list (pa_cons (pe_name 7) (pa_nil)))) (pss_cons (ps_for (passes_of rfl) rfl (pi_seq (pe_name 7)) (pg_name 9 sc_law.nd) (pss_one (ps_for (passes_of rfl) rfl (pi_range1 rfl M.range (pa_cons (pe_int) (pa_nil))) (pg_name 4 sc_law.nd) (pss_one (ps_expr (pe_app 10 (pa_cons (pe_callI 1 F__law_spoilt (hr.mono hk__law_spoilt) tk rfl (pa_cons (pe_name 9) (pa_nil))) (pa_nil)))))))) (pss_cons (ps_for (passes_of rfl) rfl (pi_seq (pe_lst (pa_cons (pe_str) (pa_cons (pe_str) (pa_cons (pe_str) (pa_nil)))))) (pg_name 11 sc_law.nd) (pss_one (ps_expr (pe_app 10 (pa_cons (pe_joinT (pe_str) (pe_lc (own := [("turn", 4)]) rfl sc_law.nd (pi_range1 rfl M.range (pa_cons (pe_callI 1 F__law_take (hr.mono hk__law_take) tk rfl (pa_cons (pe_int) (pa_nil))) (pa_nil))) (show BlkOk ["script", "store", "tails", "kinds", "turn", "many", "row", "texts", "side", "text", "asked", "signs", "rows"] (defScope f_law) _ _ from ⟨rfl, by decide +kernel, by decide +kernel, by decide +kernel, by decide +kernel⟩) (by decide) (fun _ _ _ _ _ => pg_name 4 sc_law.nd) (fun _ _ _ _ _ => pts_nil) (fun _ _ _ _ _ => pe_callI 1 F__law_pick (hr.mono hk__law_pick) takes0 rfl (pa_cons (pe_name 11) (pa_nil))))) (pa_nil)))))) (pss_cons (ps_for (passes_of rfl) rfl (pi_seq (pe_bin op_addT addT_ok (pe_name 10) (pe_name 7))) (pg_name 9 sc_law.nd) (pss_one (ps_for (passes_of rfl) rfl (pi_seq (pe_lst (pa_cons (pe_int) (pa_cons (pe_int) (pa_nil))))) (pg_name 12 sc_law.nd) (pss_one (ps_if (pt_not (pt_tru (pe_call F__law_same (hr.mono hk__law_same) tk rfl (pa_cons (pe_call F__law_told (hr.mono hk__law_told) tk rfl (pa_cons (pe_name 9) (pa_cons (pe_name 12) (pa_nil)))) (pa_cons (pe_call F__law_due (hr.mono hk__law_due) tk rfl (pa_cons (pe_name 9) (pa_cons (pe_name 12) (pa_nil)))) (pa_nil)))))) (pss_one (ps_ret (pe_bl))) (pss_nil)))))) (pss_one (ps_ret (pe_bl))))))))))))))
end
end Rd
end TL
namespace TL
open PySem PySem.Spec PyProof.Rows L2
end TL
set_option maxHeartbeats 2000000
namespace TL
open PySem PySem.Spec PyProof.Rows L2
namespace Rd
abbrev dd : Nat := 150
structure Ds (K : PySem.W.Frag) (mg : Str → Option Value) : Prop where
  d_letters_from : Df K mg "letters_from" f_letters_from ["text", "start"]
  d_digits_from : Df K mg "digits_from" f_digits_from ["text", "start", "most"]
  d_preorder : Df K mg "preorder" f_preorder ["form"]
  d_form_depth : Df K mg "form_depth" f_form_depth ["form"]
  d_form_size : Df K mg "form_size" f_form_size ["form"]
  d_show_form : Df K mg "show_form" f_show_form ["form"]
  d_show_row : Df K mg "show_row" f_show_row ["row"]
  d_after_sign : Df K mg "after_sign" f_after_sign ["text", "at", "sign"]
  d_after_name : Df K mg "after_name" f_after_name ["text", "at"]
  d_after_number : Df K mg "after_number" f_after_number ["text", "at"]
  d_middle_at : Df K mg "middle_at" f_middle_at ["text", "at"]
  d_leaf_at : Df K mg "leaf_at" f_leaf_at ["text", "at"]
  d_closed_at : Df K mg "closed_at" f_closed_at ["text", "at", "entry", "form"]
  d_form_at : Df K mg "form_at" f_form_at ["text", "at"]
  d_ask_end : Df K mg "ask_end" f_ask_end ["text", "at"]
  d_ask_limits : Df K mg "ask_limits" f_ask_limits ["forms"]
  d_read_form : Df K mg "read_form" f_read_form ["text"]
  d_read_row : Df K mg "read_row" f_read_row ["text"]
  d__law_mixed : Df K mg "_law_mixed" f__law_mixed ["number"]
  d__law_store : Df K mg "_law_store" f__law_store ["script"]
  d__law_advance : Df K mg "_law_advance" f__law_advance ["store"]
  d__law_take : Df K mg "_law_take" f__law_take ["store", "many"]
  d__law_pick : Df K mg "_law_pick" f__law_pick ["store", "things"]
  d__law_amount : Df K mg "_law_amount" f__law_amount ["store", "low", "high"]
  d__law_letters : Df K mg "_law_letters" f__law_letters ["store", "many"]
  d__law_leaf : Df K mg "_law_leaf" f__law_leaf ["store", "kinds", "many"]
  d__law_form : Df K mg "_law_form" f__law_form ["store", "kinds", "many", "steps"]
  d__law_deep_form : Df K mg "_law_deep_form" f__law_deep_form ["store", "leaf", "depth"]
  d__law_wide_form : Df K mg "_law_wide_form" f__law_wide_form ["store", "leaf", "nodes"]
  d__law_kids : Df K mg "_law_kids" f__law_kids ["form"]
  d__law_preorder : Df K mg "_law_preorder" f__law_preorder ["form"]
  d__law_form_text : Df K mg "_law_form_text" f__law_form_text ["form"]
  d__law_same : Df K mg "_law_same" f__law_same ["one", "two"]
  d__law_common : Df K mg "_law_common" f__law_common ["text", "at", "word"]
  d__law_leaf_end : Df K mg "_law_leaf_end" f__law_leaf_end ["text", "at"]
  d__law_scan : Df K mg "_law_scan" f__law_scan ["text", "rows"]
  d__law_is_form : Df K mg "_law_is_form" f__law_is_form ["value"]
  d__law_due : Df K mg "_law_due" f__law_due ["text", "rows"]
  d__law_told : Df K mg "_law_told" f__law_told ["text", "rows"]
  d__law_spoilt : Df K mg "_law_spoilt" f__law_spoilt ["store", "text"]
  d__law_made : Df K mg "_law_made" f__law_made ["store", "kinds", "many"]
  d_law : Df K mg "law" f_law ["script"]
  kx : Kx7 K
section
variable {P : Program} {w : World} {K : PySem.W.Frag} {mg : Str → Option Value} {base : Heap}
theorem F_letters_from (M : Md P w K mg base) (D : Ds K mg) : Fn1 P w K mg base 1 "letters_from" ["text", "start"] (spP K (g_letters_from07).pf) :=
  fn_PT (k := 0) D.d_letters_from sc_letters_from (fun ts K0 Z0 h => by first | (obtain ⟨rfl, _⟩ := h; rfl) | (obtain ⟨_, rfl, _⟩ := h; rfl) | (obtain ⟨_, _, rfl, _⟩ := h; rfl) | (obtain ⟨_, _, _, rfl, _⟩ := h; rfl) | (obtain ⟨_, _, _, _, rfl, _⟩ := h; rfl) | (obtain ⟨_, _, _, _, _, rfl, _⟩ := h; rfl) | (obtain ⟨_, _, _, _, _, _, rfl, _⟩ := h; rfl) | (obtain ⟨_, _, _, _, _, _, _, rfl, _⟩ := h; rfl) | (obtain ⟨_, _, _, _, _, _, _, _, rfl, _⟩ := h; rfl) | (obtain ⟨_, _, _, _, _, _, _, _, _, rfl, _⟩ := h; rfl) | (obtain ⟨_, _, _, _, _, _, _, _, _, _, rfl, _⟩ := h; rfl) | (obtain ⟨_, _, _, _, _, _, _, _, _, _, _, rfl, _⟩ := h; rfl) | (obtain ⟨_, _, _, _, _, _, _, _, _, _, _, _, rfl, _⟩ := h; rfl) | (obtain ⟨_, _, _, _, _, _, _, _, _, _, _, _, _, rfl, _⟩ := h; rfl) | (obtain ⟨_, _, _, _, _, _, _, _, _, _, _, _, _, _, rfl, _⟩ := h; rfl) | (obtain ⟨_, _, _, _, _, _, _, _, _, _, _, _, _, _, _, rfl, _⟩ := h; rfl) | (obtain ⟨_, _, _, _, _, _, _, _, _, _, _, _, _, _, _, _, rfl, _⟩ := h; rfl) | (obtain ⟨_, _, _, _, _, _, _, _, _, _, _, _, _, _, _, _, _, rfl, _⟩ := h; rfl) | (obtain ⟨_, _, _, _, _, _, _, _, _, _, _, _, _, _, _, _, _, _, rfl, _⟩ := h; rfl) | (obtain ⟨_, _, _, _, _, _, _, _, _, _, _, _, _, _, _, _, _, _, _, rfl, _⟩ := h; rfl) | (obtain ⟨_, _, _, _, _, _, _, _, _, _, _, _, _, _, _, _, _, _, _, _, rfl, _⟩ := h; rfl) | (obtain ⟨_, _, _, _, _, _, _, _, _, _, _, _, _, _, _, _, _, _, _, _, _, rfl, _⟩ := h; rfl) | (obtain ⟨_, _, _, _, _, _, _, _, _, _, _, _, _, _, _, _, _, _, _, _, _, _, rfl, _⟩ := h; rfl) | (obtain ⟨_, _, _, _, _, _, _, _, _, _, _, _, _, _, _, _, _, _, _, _, _, _, _, rfl, _⟩ := h; rfl) | (obtain ⟨_, _, _, _, _, _, _, _, _, _, _, _, _, _, _, _, _, _, _, _, _, _, _, _, rfl, _⟩ := h; rfl) | (obtain ⟨_, _, _, _, _, _, _, _, _, _, _, _, _, _, _, _, _, _, _, _, _, _, _, _, _, rfl, _⟩ := h; rfl)) fun cdv A outer s H E hr tk => ⟨_, t_letters_from M  hr tk, fun ts K0 Z0 h => pl_letters_from07  ts K0 Z0 h⟩
theorem F_digits_from (M : Md P w K mg base) (D : Ds K mg) : Fn1 P w K mg base 1 "digits_from" ["text", "start", "most"] (spP K (g_digits_from).pf) :=
  fn_PT (k := 0) D.d_digits_from sc_digits_from (fun ts K0 Z0 h => by first | (obtain ⟨rfl, _⟩ := h; rfl) | (obtain ⟨_, rfl, _⟩ := h; rfl) | (obtain ⟨_, _, rfl, _⟩ := h; rfl) | (obtain ⟨_, _, _, rfl, _⟩ := h; rfl) | (obtain ⟨_, _, _, _, rfl, _⟩ := h; rfl) | (obtain ⟨_, _, _, _, _, rfl, _⟩ := h; rfl) | (obtain ⟨_, _, _, _, _, _, rfl, _⟩ := h; rfl) | (obtain ⟨_, _, _, _, _, _, _, rfl, _⟩ := h; rfl) | (obtain ⟨_, _, _, _, _, _, _, _, rfl, _⟩ := h; rfl) | (obtain ⟨_, _, _, _, _, _, _, _, _, rfl, _⟩ := h; rfl) | (obtain ⟨_, _, _, _, _, _, _, _, _, _, rfl, _⟩ := h; rfl) | (obtain ⟨_, _, _, _, _, _, _, _, _, _, _, rfl, _⟩ := h; rfl) | (obtain ⟨_, _, _, _, _, _, _, _, _, _, _, _, rfl, _⟩ := h; rfl) | (obtain ⟨_, _, _, _, _, _, _, _, _, _, _, _, _, rfl, _⟩ := h; rfl) | (obtain ⟨_, _, _, _, _, _, _, _, _, _, _, _, _, _, rfl, _⟩ := h; rfl) | (obtain ⟨_, _, _, _, _, _, _, _, _, _, _, _, _, _, _, rfl, _⟩ := h; rfl) | (obtain ⟨_, _, _, _, _, _, _, _, _, _, _, _, _, _, _, _, rfl, _⟩ := h; rfl) | (obtain ⟨_, _, _, _, _, _, _, _, _, _, _, _, _, _, _, _, _, rfl, _⟩ := h; rfl) | (obtain ⟨_, _, _, _, _, _, _, _, _, _, _, _, _, _, _, _, _, _, rfl, _⟩ := h; rfl) | (obtain ⟨_, _, _, _, _, _, _, _, _, _, _, _, _, _, _, _, _, _, _, rfl, _⟩ := h; rfl) | (obtain ⟨_, _, _, _, _, _, _, _, _, _, _, _, _, _, _, _, _, _, _, _, rfl, _⟩ := h; rfl) | (obtain ⟨_, _, _, _, _, _, _, _, _, _, _, _, _, _, _, _, _, _, _, _, _, rfl, _⟩ := h; rfl) | (obtain ⟨_, _, _, _, _, _, _, _, _, _, _, _, _, _, _, _, _, _, _, _, _, _, rfl, _⟩ := h; rfl) | (obtain ⟨_, _, _, _, _, _, _, _, _, _, _, _, _, _, _, _, _, _, _, _, _, _, _, rfl, _⟩ := h; rfl) | (obtain ⟨_, _, _, _, _, _, _, _, _, _, _, _, _, _, _, _, _, _, _, _, _, _, _, _, rfl, _⟩ := h; rfl) | (obtain ⟨_, _, _, _, _, _, _, _, _, _, _, _, _, _, _, _, _, _, _, _, _, _, _, _, _, rfl, _⟩ := h; rfl)) fun cdv A outer s H E hr tk => ⟨_, t_digits_from M  hr tk, fun ts K0 Z0 h => pl_digits_from  ts K0 Z0 h⟩
theorem F_preorder (M : Md P w K mg base) (D : Ds K mg) : Fn1 P w K mg base 1 "preorder" ["form"] (spP K (g_preorder06).pf) :=
  fn_PT (k := 0) D.d_preorder sc_preorder (fun ts K0 Z0 h => by first | (obtain ⟨rfl, _⟩ := h; rfl) | (obtain ⟨_, rfl, _⟩ := h; rfl) | (obtain ⟨_, _, rfl, _⟩ := h; rfl) | (obtain ⟨_, _, _, rfl, _⟩ := h; rfl) | (obtain ⟨_, _, _, _, rfl, _⟩ := h; rfl) | (obtain ⟨_, _, _, _, _, rfl, _⟩ := h; rfl) | (obtain ⟨_, _, _, _, _, _, rfl, _⟩ := h; rfl) | (obtain ⟨_, _, _, _, _, _, _, rfl, _⟩ := h; rfl) | (obtain ⟨_, _, _, _, _, _, _, _, rfl, _⟩ := h; rfl) | (obtain ⟨_, _, _, _, _, _, _, _, _, rfl, _⟩ := h; rfl) | (obtain ⟨_, _, _, _, _, _, _, _, _, _, rfl, _⟩ := h; rfl) | (obtain ⟨_, _, _, _, _, _, _, _, _, _, _, rfl, _⟩ := h; rfl) | (obtain ⟨_, _, _, _, _, _, _, _, _, _, _, _, rfl, _⟩ := h; rfl) | (obtain ⟨_, _, _, _, _, _, _, _, _, _, _, _, _, rfl, _⟩ := h; rfl) | (obtain ⟨_, _, _, _, _, _, _, _, _, _, _, _, _, _, rfl, _⟩ := h; rfl) | (obtain ⟨_, _, _, _, _, _, _, _, _, _, _, _, _, _, _, rfl, _⟩ := h; rfl) | (obtain ⟨_, _, _, _, _, _, _, _, _, _, _, _, _, _, _, _, rfl, _⟩ := h; rfl) | (obtain ⟨_, _, _, _, _, _, _, _, _, _, _, _, _, _, _, _, _, rfl, _⟩ := h; rfl) | (obtain ⟨_, _, _, _, _, _, _, _, _, _, _, _, _, _, _, _, _, _, rfl, _⟩ := h; rfl) | (obtain ⟨_, _, _, _, _, _, _, _, _, _, _, _, _, _, _, _, _, _, _, rfl, _⟩ := h; rfl) | (obtain ⟨_, _, _, _, _, _, _, _, _, _, _, _, _, _, _, _, _, _, _, _, rfl, _⟩ := h; rfl) | (obtain ⟨_, _, _, _, _, _, _, _, _, _, _, _, _, _, _, _, _, _, _, _, _, rfl, _⟩ := h; rfl) | (obtain ⟨_, _, _, _, _, _, _, _, _, _, _, _, _, _, _, _, _, _, _, _, _, _, rfl, _⟩ := h; rfl) | (obtain ⟨_, _, _, _, _, _, _, _, _, _, _, _, _, _, _, _, _, _, _, _, _, _, _, rfl, _⟩ := h; rfl) | (obtain ⟨_, _, _, _, _, _, _, _, _, _, _, _, _, _, _, _, _, _, _, _, _, _, _, _, rfl, _⟩ := h; rfl) | (obtain ⟨_, _, _, _, _, _, _, _, _, _, _, _, _, _, _, _, _, _, _, _, _, _, _, _, _, rfl, _⟩ := h; rfl)) fun cdv A outer s H E hr tk => ⟨_, t_preorder M  hr tk, fun ts K0 Z0 h => pl_preorder06  ts K0 Z0 h⟩
theorem F_form_depth (M : Md P w K mg base) (D : Ds K mg) : Fn1 P w K mg base 1 "form_depth" ["form"] (spP K (g_form_depth).pf) :=
  fn_PT (k := 0) D.d_form_depth sc_form_depth (fun ts K0 Z0 h => by first | (obtain ⟨rfl, _⟩ := h; rfl) | (obtain ⟨_, rfl, _⟩ := h; rfl) | (obtain ⟨_, _, rfl, _⟩ := h; rfl) | (obtain ⟨_, _, _, rfl, _⟩ := h; rfl) | (obtain ⟨_, _, _, _, rfl, _⟩ := h; rfl) | (obtain ⟨_, _, _, _, _, rfl, _⟩ := h; rfl) | (obtain ⟨_, _, _, _, _, _, rfl, _⟩ := h; rfl) | (obtain ⟨_, _, _, _, _, _, _, rfl, _⟩ := h; rfl) | (obtain ⟨_, _, _, _, _, _, _, _, rfl, _⟩ := h; rfl) | (obtain ⟨_, _, _, _, _, _, _, _, _, rfl, _⟩ := h; rfl) | (obtain ⟨_, _, _, _, _, _, _, _, _, _, rfl, _⟩ := h; rfl) | (obtain ⟨_, _, _, _, _, _, _, _, _, _, _, rfl, _⟩ := h; rfl) | (obtain ⟨_, _, _, _, _, _, _, _, _, _, _, _, rfl, _⟩ := h; rfl) | (obtain ⟨_, _, _, _, _, _, _, _, _, _, _, _, _, rfl, _⟩ := h; rfl) | (obtain ⟨_, _, _, _, _, _, _, _, _, _, _, _, _, _, rfl, _⟩ := h; rfl) | (obtain ⟨_, _, _, _, _, _, _, _, _, _, _, _, _, _, _, rfl, _⟩ := h; rfl) | (obtain ⟨_, _, _, _, _, _, _, _, _, _, _, _, _, _, _, _, rfl, _⟩ := h; rfl) | (obtain ⟨_, _, _, _, _, _, _, _, _, _, _, _, _, _, _, _, _, rfl, _⟩ := h; rfl) | (obtain ⟨_, _, _, _, _, _, _, _, _, _, _, _, _, _, _, _, _, _, rfl, _⟩ := h; rfl) | (obtain ⟨_, _, _, _, _, _, _, _, _, _, _, _, _, _, _, _, _, _, _, rfl, _⟩ := h; rfl) | (obtain ⟨_, _, _, _, _, _, _, _, _, _, _, _, _, _, _, _, _, _, _, _, rfl, _⟩ := h; rfl) | (obtain ⟨_, _, _, _, _, _, _, _, _, _, _, _, _, _, _, _, _, _, _, _, _, rfl, _⟩ := h; rfl) | (obtain ⟨_, _, _, _, _, _, _, _, _, _, _, _, _, _, _, _, _, _, _, _, _, _, rfl, _⟩ := h; rfl) | (obtain ⟨_, _, _, _, _, _, _, _, _, _, _, _, _, _, _, _, _, _, _, _, _, _, _, rfl, _⟩ := h; rfl) | (obtain ⟨_, _, _, _, _, _, _, _, _, _, _, _, _, _, _, _, _, _, _, _, _, _, _, _, rfl, _⟩ := h; rfl) | (obtain ⟨_, _, _, _, _, _, _, _, _, _, _, _, _, _, _, _, _, _, _, _, _, _, _, _, _, rfl, _⟩ := h; rfl)) fun cdv A outer s H E hr tk => ⟨_, t_form_depth M  hr tk, fun ts K0 Z0 h => pl_form_depth  ts K0 Z0 h⟩
theorem F_form_size (M : Md P w K mg base) (D : Ds K mg) : Fn1 P w K mg base 2 "form_size" ["form"] (spP K (g_form_size).pf) :=
  fn_PT (k := 1) D.d_form_size sc_form_size (fun ts K0 Z0 h => by first | (obtain ⟨rfl, _⟩ := h; rfl) | (obtain ⟨_, rfl, _⟩ := h; rfl) | (obtain ⟨_, _, rfl, _⟩ := h; rfl) | (obtain ⟨_, _, _, rfl, _⟩ := h; rfl) | (obtain ⟨_, _, _, _, rfl, _⟩ := h; rfl) | (obtain ⟨_, _, _, _, _, rfl, _⟩ := h; rfl) | (obtain ⟨_, _, _, _, _, _, rfl, _⟩ := h; rfl) | (obtain ⟨_, _, _, _, _, _, _, rfl, _⟩ := h; rfl) | (obtain ⟨_, _, _, _, _, _, _, _, rfl, _⟩ := h; rfl) | (obtain ⟨_, _, _, _, _, _, _, _, _, rfl, _⟩ := h; rfl) | (obtain ⟨_, _, _, _, _, _, _, _, _, _, rfl, _⟩ := h; rfl) | (obtain ⟨_, _, _, _, _, _, _, _, _, _, _, rfl, _⟩ := h; rfl) | (obtain ⟨_, _, _, _, _, _, _, _, _, _, _, _, rfl, _⟩ := h; rfl) | (obtain ⟨_, _, _, _, _, _, _, _, _, _, _, _, _, rfl, _⟩ := h; rfl) | (obtain ⟨_, _, _, _, _, _, _, _, _, _, _, _, _, _, rfl, _⟩ := h; rfl) | (obtain ⟨_, _, _, _, _, _, _, _, _, _, _, _, _, _, _, rfl, _⟩ := h; rfl) | (obtain ⟨_, _, _, _, _, _, _, _, _, _, _, _, _, _, _, _, rfl, _⟩ := h; rfl) | (obtain ⟨_, _, _, _, _, _, _, _, _, _, _, _, _, _, _, _, _, rfl, _⟩ := h; rfl) | (obtain ⟨_, _, _, _, _, _, _, _, _, _, _, _, _, _, _, _, _, _, rfl, _⟩ := h; rfl) | (obtain ⟨_, _, _, _, _, _, _, _, _, _, _, _, _, _, _, _, _, _, _, rfl, _⟩ := h; rfl) | (obtain ⟨_, _, _, _, _, _, _, _, _, _, _, _, _, _, _, _, _, _, _, _, rfl, _⟩ := h; rfl) | (obtain ⟨_, _, _, _, _, _, _, _, _, _, _, _, _, _, _, _, _, _, _, _, _, rfl, _⟩ := h; rfl) | (obtain ⟨_, _, _, _, _, _, _, _, _, _, _, _, _, _, _, _, _, _, _, _, _, _, rfl, _⟩ := h; rfl) | (obtain ⟨_, _, _, _, _, _, _, _, _, _, _, _, _, _, _, _, _, _, _, _, _, _, _, rfl, _⟩ := h; rfl) | (obtain ⟨_, _, _, _, _, _, _, _, _, _, _, _, _, _, _, _, _, _, _, _, _, _, _, _, rfl, _⟩ := h; rfl) | (obtain ⟨_, _, _, _, _, _, _, _, _, _, _, _, _, _, _, _, _, _, _, _, _, _, _, _, _, rfl, _⟩ := h; rfl)) fun cdv A outer s H E hr tk => ⟨_, t_form_size M (F_preorder M D) (by decide) hr tk, fun ts K0 Z0 h => pl_form_size  ts K0 Z0 h⟩
theorem F_show_form (M : Md P w K mg base) (D : Ds K mg) : Fn1 P w K mg base 1 "show_form" ["form"] (spP K (g_show_form).pf) :=
  fn_PT (k := 0) D.d_show_form sc_show_form (fun ts K0 Z0 h => by first | (obtain ⟨rfl, _⟩ := h; rfl) | (obtain ⟨_, rfl, _⟩ := h; rfl) | (obtain ⟨_, _, rfl, _⟩ := h; rfl) | (obtain ⟨_, _, _, rfl, _⟩ := h; rfl) | (obtain ⟨_, _, _, _, rfl, _⟩ := h; rfl) | (obtain ⟨_, _, _, _, _, rfl, _⟩ := h; rfl) | (obtain ⟨_, _, _, _, _, _, rfl, _⟩ := h; rfl) | (obtain ⟨_, _, _, _, _, _, _, rfl, _⟩ := h; rfl) | (obtain ⟨_, _, _, _, _, _, _, _, rfl, _⟩ := h; rfl) | (obtain ⟨_, _, _, _, _, _, _, _, _, rfl, _⟩ := h; rfl) | (obtain ⟨_, _, _, _, _, _, _, _, _, _, rfl, _⟩ := h; rfl) | (obtain ⟨_, _, _, _, _, _, _, _, _, _, _, rfl, _⟩ := h; rfl) | (obtain ⟨_, _, _, _, _, _, _, _, _, _, _, _, rfl, _⟩ := h; rfl) | (obtain ⟨_, _, _, _, _, _, _, _, _, _, _, _, _, rfl, _⟩ := h; rfl) | (obtain ⟨_, _, _, _, _, _, _, _, _, _, _, _, _, _, rfl, _⟩ := h; rfl) | (obtain ⟨_, _, _, _, _, _, _, _, _, _, _, _, _, _, _, rfl, _⟩ := h; rfl) | (obtain ⟨_, _, _, _, _, _, _, _, _, _, _, _, _, _, _, _, rfl, _⟩ := h; rfl) | (obtain ⟨_, _, _, _, _, _, _, _, _, _, _, _, _, _, _, _, _, rfl, _⟩ := h; rfl) | (obtain ⟨_, _, _, _, _, _, _, _, _, _, _, _, _, _, _, _, _, _, rfl, _⟩ := h; rfl) | (obtain ⟨_, _, _, _, _, _, _, _, _, _, _, _, _, _, _, _, _, _, _, rfl, _⟩ := h; rfl) | (obtain ⟨_, _, _, _, _, _, _, _, _, _, _, _, _, _, _, _, _, _, _, _, rfl, _⟩ := h; rfl) | (obtain ⟨_, _, _, _, _, _, _, _, _, _, _, _, _, _, _, _, _, _, _, _, _, rfl, _⟩ := h; rfl) | (obtain ⟨_, _, _, _, _, _, _, _, _, _, _, _, _, _, _, _, _, _, _, _, _, _, rfl, _⟩ := h; rfl) | (obtain ⟨_, _, _, _, _, _, _, _, _, _, _, _, _, _, _, _, _, _, _, _, _, _, _, rfl, _⟩ := h; rfl) | (obtain ⟨_, _, _, _, _, _, _, _, _, _, _, _, _, _, _, _, _, _, _, _, _, _, _, _, rfl, _⟩ := h; rfl) | (obtain ⟨_, _, _, _, _, _, _, _, _, _, _, _, _, _, _, _, _, _, _, _, _, _, _, _, _, rfl, _⟩ := h; rfl)) fun cdv A outer s H E hr tk => ⟨_, t_show_form M  hr tk, fun ts K0 Z0 h => pl_show_form  ts K0 Z0 h⟩
theorem F_show_row (M : Md P w K mg base) (D : Ds K mg) : Fn1 P w K mg base 2 "show_row" ["row"] (spP K (g_show_row).pf) :=
  fn_PT (k := 1) D.d_show_row sc_show_row (fun ts K0 Z0 h => by first | (obtain ⟨rfl, _⟩ := h; rfl) | (obtain ⟨_, rfl, _⟩ := h; rfl) | (obtain ⟨_, _, rfl, _⟩ := h; rfl) | (obtain ⟨_, _, _, rfl, _⟩ := h; rfl) | (obtain ⟨_, _, _, _, rfl, _⟩ := h; rfl) | (obtain ⟨_, _, _, _, _, rfl, _⟩ := h; rfl) | (obtain ⟨_, _, _, _, _, _, rfl, _⟩ := h; rfl) | (obtain ⟨_, _, _, _, _, _, _, rfl, _⟩ := h; rfl) | (obtain ⟨_, _, _, _, _, _, _, _, rfl, _⟩ := h; rfl) | (obtain ⟨_, _, _, _, _, _, _, _, _, rfl, _⟩ := h; rfl) | (obtain ⟨_, _, _, _, _, _, _, _, _, _, rfl, _⟩ := h; rfl) | (obtain ⟨_, _, _, _, _, _, _, _, _, _, _, rfl, _⟩ := h; rfl) | (obtain ⟨_, _, _, _, _, _, _, _, _, _, _, _, rfl, _⟩ := h; rfl) | (obtain ⟨_, _, _, _, _, _, _, _, _, _, _, _, _, rfl, _⟩ := h; rfl) | (obtain ⟨_, _, _, _, _, _, _, _, _, _, _, _, _, _, rfl, _⟩ := h; rfl) | (obtain ⟨_, _, _, _, _, _, _, _, _, _, _, _, _, _, _, rfl, _⟩ := h; rfl) | (obtain ⟨_, _, _, _, _, _, _, _, _, _, _, _, _, _, _, _, rfl, _⟩ := h; rfl) | (obtain ⟨_, _, _, _, _, _, _, _, _, _, _, _, _, _, _, _, _, rfl, _⟩ := h; rfl) | (obtain ⟨_, _, _, _, _, _, _, _, _, _, _, _, _, _, _, _, _, _, rfl, _⟩ := h; rfl) | (obtain ⟨_, _, _, _, _, _, _, _, _, _, _, _, _, _, _, _, _, _, _, rfl, _⟩ := h; rfl) | (obtain ⟨_, _, _, _, _, _, _, _, _, _, _, _, _, _, _, _, _, _, _, _, rfl, _⟩ := h; rfl) | (obtain ⟨_, _, _, _, _, _, _, _, _, _, _, _, _, _, _, _, _, _, _, _, _, rfl, _⟩ := h; rfl) | (obtain ⟨_, _, _, _, _, _, _, _, _, _, _, _, _, _, _, _, _, _, _, _, _, _, rfl, _⟩ := h; rfl) | (obtain ⟨_, _, _, _, _, _, _, _, _, _, _, _, _, _, _, _, _, _, _, _, _, _, _, rfl, _⟩ := h; rfl) | (obtain ⟨_, _, _, _, _, _, _, _, _, _, _, _, _, _, _, _, _, _, _, _, _, _, _, _, rfl, _⟩ := h; rfl) | (obtain ⟨_, _, _, _, _, _, _, _, _, _, _, _, _, _, _, _, _, _, _, _, _, _, _, _, _, rfl, _⟩ := h; rfl)) fun cdv A outer s H E hr tk => ⟨_, t_show_row M (F_show_form M D) (by decide) hr tk, fun ts K0 Z0 h => pl_show_row  ts K0 Z0 h⟩
theorem F_after_sign (M : Md P w K mg base) (D : Ds K mg) : Fn1 P w K mg base 3 "after_sign" ["text", "at", "sign"] (spP K (g_after_sign (He.ga K)).pf) :=
  fn_PT (k := 2) D.d_after_sign sc_after_sign (fun ts K0 Z0 h => by first | (obtain ⟨rfl, _⟩ := h; rfl) | (obtain ⟨_, rfl, _⟩ := h; rfl) | (obtain ⟨_, _, rfl, _⟩ := h; rfl) | (obtain ⟨_, _, _, rfl, _⟩ := h; rfl) | (obtain ⟨_, _, _, _, rfl, _⟩ := h; rfl) | (obtain ⟨_, _, _, _, _, rfl, _⟩ := h; rfl) | (obtain ⟨_, _, _, _, _, _, rfl, _⟩ := h; rfl) | (obtain ⟨_, _, _, _, _, _, _, rfl, _⟩ := h; rfl) | (obtain ⟨_, _, _, _, _, _, _, _, rfl, _⟩ := h; rfl) | (obtain ⟨_, _, _, _, _, _, _, _, _, rfl, _⟩ := h; rfl) | (obtain ⟨_, _, _, _, _, _, _, _, _, _, rfl, _⟩ := h; rfl) | (obtain ⟨_, _, _, _, _, _, _, _, _, _, _, rfl, _⟩ := h; rfl) | (obtain ⟨_, _, _, _, _, _, _, _, _, _, _, _, rfl, _⟩ := h; rfl) | (obtain ⟨_, _, _, _, _, _, _, _, _, _, _, _, _, rfl, _⟩ := h; rfl) | (obtain ⟨_, _, _, _, _, _, _, _, _, _, _, _, _, _, rfl, _⟩ := h; rfl) | (obtain ⟨_, _, _, _, _, _, _, _, _, _, _, _, _, _, _, rfl, _⟩ := h; rfl) | (obtain ⟨_, _, _, _, _, _, _, _, _, _, _, _, _, _, _, _, rfl, _⟩ := h; rfl) | (obtain ⟨_, _, _, _, _, _, _, _, _, _, _, _, _, _, _, _, _, rfl, _⟩ := h; rfl) | (obtain ⟨_, _, _, _, _, _, _, _, _, _, _, _, _, _, _, _, _, _, rfl, _⟩ := h; rfl) | (obtain ⟨_, _, _, _, _, _, _, _, _, _, _, _, _, _, _, _, _, _, _, rfl, _⟩ := h; rfl) | (obtain ⟨_, _, _, _, _, _, _, _, _, _, _, _, _, _, _, _, _, _, _, _, rfl, _⟩ := h; rfl) | (obtain ⟨_, _, _, _, _, _, _, _, _, _, _, _, _, _, _, _, _, _, _, _, _, rfl, _⟩ := h; rfl) | (obtain ⟨_, _, _, _, _, _, _, _, _, _, _, _, _, _, _, _, _, _, _, _, _, _, rfl, _⟩ := h; rfl) | (obtain ⟨_, _, _, _, _, _, _, _, _, _, _, _, _, _, _, _, _, _, _, _, _, _, _, rfl, _⟩ := h; rfl) | (obtain ⟨_, _, _, _, _, _, _, _, _, _, _, _, _, _, _, _, _, _, _, _, _, _, _, _, rfl, _⟩ := h; rfl) | (obtain ⟨_, _, _, _, _, _, _, _, _, _, _, _, _, _, _, _, _, _, _, _, _, _, _, _, _, rfl, _⟩ := h; rfl)) fun cdv A outer s H E hr tk => ⟨_, t_after_sign M (by decide)  hr tk, fun ts K0 Z0 h => pl_after_sign (He.ga K) ts K0 Z0 h⟩
theorem F_after_name (M : Md P w K mg base) (D : Ds K mg) : Fn1 P w K mg base 3 "after_name" ["text", "at"] (spP K (g_after_name (He.ga K)).pf) :=
  fn_PT (k := 2) D.d_after_name sc_after_name (fun ts K0 Z0 h => by first | (obtain ⟨rfl, _⟩ := h; rfl) | (obtain ⟨_, rfl, _⟩ := h; rfl) | (obtain ⟨_, _, rfl, _⟩ := h; rfl) | (obtain ⟨_, _, _, rfl, _⟩ := h; rfl) | (obtain ⟨_, _, _, _, rfl, _⟩ := h; rfl) | (obtain ⟨_, _, _, _, _, rfl, _⟩ := h; rfl) | (obtain ⟨_, _, _, _, _, _, rfl, _⟩ := h; rfl) | (obtain ⟨_, _, _, _, _, _, _, rfl, _⟩ := h; rfl) | (obtain ⟨_, _, _, _, _, _, _, _, rfl, _⟩ := h; rfl) | (obtain ⟨_, _, _, _, _, _, _, _, _, rfl, _⟩ := h; rfl) | (obtain ⟨_, _, _, _, _, _, _, _, _, _, rfl, _⟩ := h; rfl) | (obtain ⟨_, _, _, _, _, _, _, _, _, _, _, rfl, _⟩ := h; rfl) | (obtain ⟨_, _, _, _, _, _, _, _, _, _, _, _, rfl, _⟩ := h; rfl) | (obtain ⟨_, _, _, _, _, _, _, _, _, _, _, _, _, rfl, _⟩ := h; rfl) | (obtain ⟨_, _, _, _, _, _, _, _, _, _, _, _, _, _, rfl, _⟩ := h; rfl) | (obtain ⟨_, _, _, _, _, _, _, _, _, _, _, _, _, _, _, rfl, _⟩ := h; rfl) | (obtain ⟨_, _, _, _, _, _, _, _, _, _, _, _, _, _, _, _, rfl, _⟩ := h; rfl) | (obtain ⟨_, _, _, _, _, _, _, _, _, _, _, _, _, _, _, _, _, rfl, _⟩ := h; rfl) | (obtain ⟨_, _, _, _, _, _, _, _, _, _, _, _, _, _, _, _, _, _, rfl, _⟩ := h; rfl) | (obtain ⟨_, _, _, _, _, _, _, _, _, _, _, _, _, _, _, _, _, _, _, rfl, _⟩ := h; rfl) | (obtain ⟨_, _, _, _, _, _, _, _, _, _, _, _, _, _, _, _, _, _, _, _, rfl, _⟩ := h; rfl) | (obtain ⟨_, _, _, _, _, _, _, _, _, _, _, _, _, _, _, _, _, _, _, _, _, rfl, _⟩ := h; rfl) | (obtain ⟨_, _, _, _, _, _, _, _, _, _, _, _, _, _, _, _, _, _, _, _, _, _, rfl, _⟩ := h; rfl) | (obtain ⟨_, _, _, _, _, _, _, _, _, _, _, _, _, _, _, _, _, _, _, _, _, _, _, rfl, _⟩ := h; rfl) | (obtain ⟨_, _, _, _, _, _, _, _, _, _, _, _, _, _, _, _, _, _, _, _, _, _, _, _, rfl, _⟩ := h; rfl) | (obtain ⟨_, _, _, _, _, _, _, _, _, _, _, _, _, _, _, _, _, _, _, _, _, _, _, _, _, rfl, _⟩ := h; rfl)) fun cdv A outer s H E hr tk => ⟨_, t_after_name M (by decide) (F_letters_from M D) (by decide) (F_digits_from M D) (by decide) hr tk, fun ts K0 Z0 h => pl_after_name (He.ga K) ts K0 Z0 h⟩
theorem F_after_number (M : Md P w K mg base) (D : Ds K mg) : Fn1 P w K mg base 3 "after_number" ["text", "at"] (spP K (g_after_number (He.ga K)).pf) :=
  fn_PT (k := 2) D.d_after_number sc_after_number (fun ts K0 Z0 h => by first | (obtain ⟨rfl, _⟩ := h; rfl) | (obtain ⟨_, rfl, _⟩ := h; rfl) | (obtain ⟨_, _, rfl, _⟩ := h; rfl) | (obtain ⟨_, _, _, rfl, _⟩ := h; rfl) | (obtain ⟨_, _, _, _, rfl, _⟩ := h; rfl) | (obtain ⟨_, _, _, _, _, rfl, _⟩ := h; rfl) | (obtain ⟨_, _, _, _, _, _, rfl, _⟩ := h; rfl) | (obtain ⟨_, _, _, _, _, _, _, rfl, _⟩ := h; rfl) | (obtain ⟨_, _, _, _, _, _, _, _, rfl, _⟩ := h; rfl) | (obtain ⟨_, _, _, _, _, _, _, _, _, rfl, _⟩ := h; rfl) | (obtain ⟨_, _, _, _, _, _, _, _, _, _, rfl, _⟩ := h; rfl) | (obtain ⟨_, _, _, _, _, _, _, _, _, _, _, rfl, _⟩ := h; rfl) | (obtain ⟨_, _, _, _, _, _, _, _, _, _, _, _, rfl, _⟩ := h; rfl) | (obtain ⟨_, _, _, _, _, _, _, _, _, _, _, _, _, rfl, _⟩ := h; rfl) | (obtain ⟨_, _, _, _, _, _, _, _, _, _, _, _, _, _, rfl, _⟩ := h; rfl) | (obtain ⟨_, _, _, _, _, _, _, _, _, _, _, _, _, _, _, rfl, _⟩ := h; rfl) | (obtain ⟨_, _, _, _, _, _, _, _, _, _, _, _, _, _, _, _, rfl, _⟩ := h; rfl) | (obtain ⟨_, _, _, _, _, _, _, _, _, _, _, _, _, _, _, _, _, rfl, _⟩ := h; rfl) | (obtain ⟨_, _, _, _, _, _, _, _, _, _, _, _, _, _, _, _, _, _, rfl, _⟩ := h; rfl) | (obtain ⟨_, _, _, _, _, _, _, _, _, _, _, _, _, _, _, _, _, _, _, rfl, _⟩ := h; rfl) | (obtain ⟨_, _, _, _, _, _, _, _, _, _, _, _, _, _, _, _, _, _, _, _, rfl, _⟩ := h; rfl) | (obtain ⟨_, _, _, _, _, _, _, _, _, _, _, _, _, _, _, _, _, _, _, _, _, rfl, _⟩ := h; rfl) | (obtain ⟨_, _, _, _, _, _, _, _, _, _, _, _, _, _, _, _, _, _, _, _, _, _, rfl, _⟩ := h; rfl) | (obtain ⟨_, _, _, _, _, _, _, _, _, _, _, _, _, _, _, _, _, _, _, _, _, _, _, rfl, _⟩ := h; rfl) | (obtain ⟨_, _, _, _, _, _, _, _, _, _, _, _, _, _, _, _, _, _, _, _, _, _, _, _, rfl, _⟩ := h; rfl) | (obtain ⟨_, _, _, _, _, _, _, _, _, _, _, _, _, _, _, _, _, _, _, _, _, _, _, _, _, rfl, _⟩ := h; rfl)) fun cdv A outer s H E hr tk => ⟨_, t_after_number M (by decide) (F_digits_from M D) (by decide) hr tk, fun ts K0 Z0 h => pl_after_number (He.ga K) ts K0 Z0 h⟩
theorem F_middle_at (M : Md P w K mg base) (D : Ds K mg) : Fn1 P w K mg base 4 "middle_at" ["text", "at"] (spP K (g_middle_at (He.ga K)).pf) :=
  fn_PT (k := 3) D.d_middle_at sc_middle_at (fun ts K0 Z0 h => by first | (obtain ⟨rfl, _⟩ := h; rfl) | (obtain ⟨_, rfl, _⟩ := h; rfl) | (obtain ⟨_, _, rfl, _⟩ := h; rfl) | (obtain ⟨_, _, _, rfl, _⟩ := h; rfl) | (obtain ⟨_, _, _, _, rfl, _⟩ := h; rfl) | (obtain ⟨_, _, _, _, _, rfl, _⟩ := h; rfl) | (obtain ⟨_, _, _, _, _, _, rfl, _⟩ := h; rfl) | (obtain ⟨_, _, _, _, _, _, _, rfl, _⟩ := h; rfl) | (obtain ⟨_, _, _, _, _, _, _, _, rfl, _⟩ := h; rfl) | (obtain ⟨_, _, _, _, _, _, _, _, _, rfl, _⟩ := h; rfl) | (obtain ⟨_, _, _, _, _, _, _, _, _, _, rfl, _⟩ := h; rfl) | (obtain ⟨_, _, _, _, _, _, _, _, _, _, _, rfl, _⟩ := h; rfl) | (obtain ⟨_, _, _, _, _, _, _, _, _, _, _, _, rfl, _⟩ := h; rfl) | (obtain ⟨_, _, _, _, _, _, _, _, _, _, _, _, _, rfl, _⟩ := h; rfl) | (obtain ⟨_, _, _, _, _, _, _, _, _, _, _, _, _, _, rfl, _⟩ := h; rfl) | (obtain ⟨_, _, _, _, _, _, _, _, _, _, _, _, _, _, _, rfl, _⟩ := h; rfl) | (obtain ⟨_, _, _, _, _, _, _, _, _, _, _, _, _, _, _, _, rfl, _⟩ := h; rfl) | (obtain ⟨_, _, _, _, _, _, _, _, _, _, _, _, _, _, _, _, _, rfl, _⟩ := h; rfl) | (obtain ⟨_, _, _, _, _, _, _, _, _, _, _, _, _, _, _, _, _, _, rfl, _⟩ := h; rfl) | (obtain ⟨_, _, _, _, _, _, _, _, _, _, _, _, _, _, _, _, _, _, _, rfl, _⟩ := h; rfl) | (obtain ⟨_, _, _, _, _, _, _, _, _, _, _, _, _, _, _, _, _, _, _, _, rfl, _⟩ := h; rfl) | (obtain ⟨_, _, _, _, _, _, _, _, _, _, _, _, _, _, _, _, _, _, _, _, _, rfl, _⟩ := h; rfl) | (obtain ⟨_, _, _, _, _, _, _, _, _, _, _, _, _, _, _, _, _, _, _, _, _, _, rfl, _⟩ := h; rfl) | (obtain ⟨_, _, _, _, _, _, _, _, _, _, _, _, _, _, _, _, _, _, _, _, _, _, _, rfl, _⟩ := h; rfl) | (obtain ⟨_, _, _, _, _, _, _, _, _, _, _, _, _, _, _, _, _, _, _, _, _, _, _, _, rfl, _⟩ := h; rfl) | (obtain ⟨_, _, _, _, _, _, _, _, _, _, _, _, _, _, _, _, _, _, _, _, _, _, _, _, _, rfl, _⟩ := h; rfl)) fun cdv A outer s H E hr tk => ⟨_, t_middle_at M (F_after_sign M D) (by decide) hr tk, fun ts K0 Z0 h => pl_middle_at (He.ga K) ts K0 Z0 h⟩
theorem F_leaf_at (M : Md P w K mg base) (D : Ds K mg) : Fn1 P w K mg base 4 "leaf_at" ["text", "at"] (spP K (g_leaf_at (He.ga K)).pf) :=
  fn_PT (k := 3) D.d_leaf_at sc_leaf_at (fun ts K0 Z0 h => by first | (obtain ⟨rfl, _⟩ := h; rfl) | (obtain ⟨_, rfl, _⟩ := h; rfl) | (obtain ⟨_, _, rfl, _⟩ := h; rfl) | (obtain ⟨_, _, _, rfl, _⟩ := h; rfl) | (obtain ⟨_, _, _, _, rfl, _⟩ := h; rfl) | (obtain ⟨_, _, _, _, _, rfl, _⟩ := h; rfl) | (obtain ⟨_, _, _, _, _, _, rfl, _⟩ := h; rfl) | (obtain ⟨_, _, _, _, _, _, _, rfl, _⟩ := h; rfl) | (obtain ⟨_, _, _, _, _, _, _, _, rfl, _⟩ := h; rfl) | (obtain ⟨_, _, _, _, _, _, _, _, _, rfl, _⟩ := h; rfl) | (obtain ⟨_, _, _, _, _, _, _, _, _, _, rfl, _⟩ := h; rfl) | (obtain ⟨_, _, _, _, _, _, _, _, _, _, _, rfl, _⟩ := h; rfl) | (obtain ⟨_, _, _, _, _, _, _, _, _, _, _, _, rfl, _⟩ := h; rfl) | (obtain ⟨_, _, _, _, _, _, _, _, _, _, _, _, _, rfl, _⟩ := h; rfl) | (obtain ⟨_, _, _, _, _, _, _, _, _, _, _, _, _, _, rfl, _⟩ := h; rfl) | (obtain ⟨_, _, _, _, _, _, _, _, _, _, _, _, _, _, _, rfl, _⟩ := h; rfl) | (obtain ⟨_, _, _, _, _, _, _, _, _, _, _, _, _, _, _, _, rfl, _⟩ := h; rfl) | (obtain ⟨_, _, _, _, _, _, _, _, _, _, _, _, _, _, _, _, _, rfl, _⟩ := h; rfl) | (obtain ⟨_, _, _, _, _, _, _, _, _, _, _, _, _, _, _, _, _, _, rfl, _⟩ := h; rfl) | (obtain ⟨_, _, _, _, _, _, _, _, _, _, _, _, _, _, _, _, _, _, _, rfl, _⟩ := h; rfl) | (obtain ⟨_, _, _, _, _, _, _, _, _, _, _, _, _, _, _, _, _, _, _, _, rfl, _⟩ := h; rfl) | (obtain ⟨_, _, _, _, _, _, _, _, _, _, _, _, _, _, _, _, _, _, _, _, _, rfl, _⟩ := h; rfl) | (obtain ⟨_, _, _, _, _, _, _, _, _, _, _, _, _, _, _, _, _, _, _, _, _, _, rfl, _⟩ := h; rfl) | (obtain ⟨_, _, _, _, _, _, _, _, _, _, _, _, _, _, _, _, _, _, _, _, _, _, _, rfl, _⟩ := h; rfl) | (obtain ⟨_, _, _, _, _, _, _, _, _, _, _, _, _, _, _, _, _, _, _, _, _, _, _, _, rfl, _⟩ := h; rfl) | (obtain ⟨_, _, _, _, _, _, _, _, _, _, _, _, _, _, _, _, _, _, _, _, _, _, _, _, _, rfl, _⟩ := h; rfl)) fun cdv A outer s H E hr tk => ⟨_, t_leaf_at M (F_after_number M D) (by decide) (F_after_name M D) (by decide) hr tk, fun ts K0 Z0 h => pl_leaf_at (He.ga K) ts K0 Z0 h⟩
theorem F_closed_at (M : Md P w K mg base) (D : Ds K mg) : Fn1 P w K mg base 4 "closed_at" ["text", "at", "entry", "form"] (spP K (g_closed_at (He.ga K)).pf) :=
  fn_PT (k := 3) D.d_closed_at sc_closed_at (fun ts K0 Z0 h => by first | (obtain ⟨rfl, _⟩ := h; rfl) | (obtain ⟨_, rfl, _⟩ := h; rfl) | (obtain ⟨_, _, rfl, _⟩ := h; rfl) | (obtain ⟨_, _, _, rfl, _⟩ := h; rfl) | (obtain ⟨_, _, _, _, rfl, _⟩ := h; rfl) | (obtain ⟨_, _, _, _, _, rfl, _⟩ := h; rfl) | (obtain ⟨_, _, _, _, _, _, rfl, _⟩ := h; rfl) | (obtain ⟨_, _, _, _, _, _, _, rfl, _⟩ := h; rfl) | (obtain ⟨_, _, _, _, _, _, _, _, rfl, _⟩ := h; rfl) | (obtain ⟨_, _, _, _, _, _, _, _, _, rfl, _⟩ := h; rfl) | (obtain ⟨_, _, _, _, _, _, _, _, _, _, rfl, _⟩ := h; rfl) | (obtain ⟨_, _, _, _, _, _, _, _, _, _, _, rfl, _⟩ := h; rfl) | (obtain ⟨_, _, _, _, _, _, _, _, _, _, _, _, rfl, _⟩ := h; rfl) | (obtain ⟨_, _, _, _, _, _, _, _, _, _, _, _, _, rfl, _⟩ := h; rfl) | (obtain ⟨_, _, _, _, _, _, _, _, _, _, _, _, _, _, rfl, _⟩ := h; rfl) | (obtain ⟨_, _, _, _, _, _, _, _, _, _, _, _, _, _, _, rfl, _⟩ := h; rfl) | (obtain ⟨_, _, _, _, _, _, _, _, _, _, _, _, _, _, _, _, rfl, _⟩ := h; rfl) | (obtain ⟨_, _, _, _, _, _, _, _, _, _, _, _, _, _, _, _, _, rfl, _⟩ := h; rfl) | (obtain ⟨_, _, _, _, _, _, _, _, _, _, _, _, _, _, _, _, _, _, rfl, _⟩ := h; rfl) | (obtain ⟨_, _, _, _, _, _, _, _, _, _, _, _, _, _, _, _, _, _, _, rfl, _⟩ := h; rfl) | (obtain ⟨_, _, _, _, _, _, _, _, _, _, _, _, _, _, _, _, _, _, _, _, rfl, _⟩ := h; rfl) | (obtain ⟨_, _, _, _, _, _, _, _, _, _, _, _, _, _, _, _, _, _, _, _, _, rfl, _⟩ := h; rfl) | (obtain ⟨_, _, _, _, _, _, _, _, _, _, _, _, _, _, _, _, _, _, _, _, _, _, rfl, _⟩ := h; rfl) | (obtain ⟨_, _, _, _, _, _, _, _, _, _, _, _, _, _, _, _, _, _, _, _, _, _, _, rfl, _⟩ := h; rfl) | (obtain ⟨_, _, _, _, _, _, _, _, _, _, _, _, _, _, _, _, _, _, _, _, _, _, _, _, rfl, _⟩ := h; rfl) | (obtain ⟨_, _, _, _, _, _, _, _, _, _, _, _, _, _, _, _, _, _, _, _, _, _, _, _, _, rfl, _⟩ := h; rfl)) fun cdv A outer s H E hr tk => ⟨_, t_closed_at M (F_after_sign M D) (by decide) hr tk, fun ts K0 Z0 h => pl_closed_at (He.ga K) ts K0 Z0 h⟩
theorem F_form_at (M : Md P w K mg base) (D : Ds K mg) : Fn1 P w K mg base 5 "form_at" ["text", "at"] (spP K (g_form_at (He.ga K)).pf) :=
  fn_PT (k := 4) D.d_form_at sc_form_at (fun ts K0 Z0 h => by first | (obtain ⟨rfl, _⟩ := h; rfl) | (obtain ⟨_, rfl, _⟩ := h; rfl) | (obtain ⟨_, _, rfl, _⟩ := h; rfl) | (obtain ⟨_, _, _, rfl, _⟩ := h; rfl) | (obtain ⟨_, _, _, _, rfl, _⟩ := h; rfl) | (obtain ⟨_, _, _, _, _, rfl, _⟩ := h; rfl) | (obtain ⟨_, _, _, _, _, _, rfl, _⟩ := h; rfl) | (obtain ⟨_, _, _, _, _, _, _, rfl, _⟩ := h; rfl) | (obtain ⟨_, _, _, _, _, _, _, _, rfl, _⟩ := h; rfl) | (obtain ⟨_, _, _, _, _, _, _, _, _, rfl, _⟩ := h; rfl) | (obtain ⟨_, _, _, _, _, _, _, _, _, _, rfl, _⟩ := h; rfl) | (obtain ⟨_, _, _, _, _, _, _, _, _, _, _, rfl, _⟩ := h; rfl) | (obtain ⟨_, _, _, _, _, _, _, _, _, _, _, _, rfl, _⟩ := h; rfl) | (obtain ⟨_, _, _, _, _, _, _, _, _, _, _, _, _, rfl, _⟩ := h; rfl) | (obtain ⟨_, _, _, _, _, _, _, _, _, _, _, _, _, _, rfl, _⟩ := h; rfl) | (obtain ⟨_, _, _, _, _, _, _, _, _, _, _, _, _, _, _, rfl, _⟩ := h; rfl) | (obtain ⟨_, _, _, _, _, _, _, _, _, _, _, _, _, _, _, _, rfl, _⟩ := h; rfl) | (obtain ⟨_, _, _, _, _, _, _, _, _, _, _, _, _, _, _, _, _, rfl, _⟩ := h; rfl) | (obtain ⟨_, _, _, _, _, _, _, _, _, _, _, _, _, _, _, _, _, _, rfl, _⟩ := h; rfl) | (obtain ⟨_, _, _, _, _, _, _, _, _, _, _, _, _, _, _, _, _, _, _, rfl, _⟩ := h; rfl) | (obtain ⟨_, _, _, _, _, _, _, _, _, _, _, _, _, _, _, _, _, _, _, _, rfl, _⟩ := h; rfl) | (obtain ⟨_, _, _, _, _, _, _, _, _, _, _, _, _, _, _, _, _, _, _, _, _, rfl, _⟩ := h; rfl) | (obtain ⟨_, _, _, _, _, _, _, _, _, _, _, _, _, _, _, _, _, _, _, _, _, _, rfl, _⟩ := h; rfl) | (obtain ⟨_, _, _, _, _, _, _, _, _, _, _, _, _, _, _, _, _, _, _, _, _, _, _, rfl, _⟩ := h; rfl) | (obtain ⟨_, _, _, _, _, _, _, _, _, _, _, _, _, _, _, _, _, _, _, _, _, _, _, _, rfl, _⟩ := h; rfl) | (obtain ⟨_, _, _, _, _, _, _, _, _, _, _, _, _, _, _, _, _, _, _, _, _, _, _, _, _, rfl, _⟩ := h; rfl)) fun cdv A outer s H E hr tk => ⟨_, t_form_at M (F_leaf_at M D) (by decide) (F_closed_at M D) (by decide) (F_middle_at M D) (by decide) hr tk, fun ts K0 Z0 h => pl_form_at (He.ga K) ts K0 Z0 h⟩
theorem F_ask_end (M : Md P w K mg base) (D : Ds K mg) : Fn1 P w K mg base 3 "ask_end" ["text", "at"] (spP K (g_ask_end (He.ga K)).pf) :=
  fn_PT (k := 2) D.d_ask_end sc_ask_end (fun ts K0 Z0 h => by first | (obtain ⟨rfl, _⟩ := h; rfl) | (obtain ⟨_, rfl, _⟩ := h; rfl) | (obtain ⟨_, _, rfl, _⟩ := h; rfl) | (obtain ⟨_, _, _, rfl, _⟩ := h; rfl) | (obtain ⟨_, _, _, _, rfl, _⟩ := h; rfl) | (obtain ⟨_, _, _, _, _, rfl, _⟩ := h; rfl) | (obtain ⟨_, _, _, _, _, _, rfl, _⟩ := h; rfl) | (obtain ⟨_, _, _, _, _, _, _, rfl, _⟩ := h; rfl) | (obtain ⟨_, _, _, _, _, _, _, _, rfl, _⟩ := h; rfl) | (obtain ⟨_, _, _, _, _, _, _, _, _, rfl, _⟩ := h; rfl) | (obtain ⟨_, _, _, _, _, _, _, _, _, _, rfl, _⟩ := h; rfl) | (obtain ⟨_, _, _, _, _, _, _, _, _, _, _, rfl, _⟩ := h; rfl) | (obtain ⟨_, _, _, _, _, _, _, _, _, _, _, _, rfl, _⟩ := h; rfl) | (obtain ⟨_, _, _, _, _, _, _, _, _, _, _, _, _, rfl, _⟩ := h; rfl) | (obtain ⟨_, _, _, _, _, _, _, _, _, _, _, _, _, _, rfl, _⟩ := h; rfl) | (obtain ⟨_, _, _, _, _, _, _, _, _, _, _, _, _, _, _, rfl, _⟩ := h; rfl) | (obtain ⟨_, _, _, _, _, _, _, _, _, _, _, _, _, _, _, _, rfl, _⟩ := h; rfl) | (obtain ⟨_, _, _, _, _, _, _, _, _, _, _, _, _, _, _, _, _, rfl, _⟩ := h; rfl) | (obtain ⟨_, _, _, _, _, _, _, _, _, _, _, _, _, _, _, _, _, _, rfl, _⟩ := h; rfl) | (obtain ⟨_, _, _, _, _, _, _, _, _, _, _, _, _, _, _, _, _, _, _, rfl, _⟩ := h; rfl) | (obtain ⟨_, _, _, _, _, _, _, _, _, _, _, _, _, _, _, _, _, _, _, _, rfl, _⟩ := h; rfl) | (obtain ⟨_, _, _, _, _, _, _, _, _, _, _, _, _, _, _, _, _, _, _, _, _, rfl, _⟩ := h; rfl) | (obtain ⟨_, _, _, _, _, _, _, _, _, _, _, _, _, _, _, _, _, _, _, _, _, _, rfl, _⟩ := h; rfl) | (obtain ⟨_, _, _, _, _, _, _, _, _, _, _, _, _, _, _, _, _, _, _, _, _, _, _, rfl, _⟩ := h; rfl) | (obtain ⟨_, _, _, _, _, _, _, _, _, _, _, _, _, _, _, _, _, _, _, _, _, _, _, _, rfl, _⟩ := h; rfl) | (obtain ⟨_, _, _, _, _, _, _, _, _, _, _, _, _, _, _, _, _, _, _, _, _, _, _, _, _, rfl, _⟩ := h; rfl)) fun cdv A outer s H E hr tk => ⟨_, t_ask_end M (by decide)  hr tk, fun ts K0 Z0 h => pl_ask_end (He.ga K) ts K0 Z0 h⟩
theorem F_ask_limits (M : Md P w K mg base) (D : Ds K mg) : Fn1 P w K mg base 3 "ask_limits" ["forms"] (spP K (g_ask_limits (He.ga K)).pf) :=
  fn_PT (k := 2) D.d_ask_limits sc_ask_limits (fun ts K0 Z0 h => by first | (obtain ⟨rfl, _⟩ := h; rfl) | (obtain ⟨_, rfl, _⟩ := h; rfl) | (obtain ⟨_, _, rfl, _⟩ := h; rfl) | (obtain ⟨_, _, _, rfl, _⟩ := h; rfl) | (obtain ⟨_, _, _, _, rfl, _⟩ := h; rfl) | (obtain ⟨_, _, _, _, _, rfl, _⟩ := h; rfl) | (obtain ⟨_, _, _, _, _, _, rfl, _⟩ := h; rfl) | (obtain ⟨_, _, _, _, _, _, _, rfl, _⟩ := h; rfl) | (obtain ⟨_, _, _, _, _, _, _, _, rfl, _⟩ := h; rfl) | (obtain ⟨_, _, _, _, _, _, _, _, _, rfl, _⟩ := h; rfl) | (obtain ⟨_, _, _, _, _, _, _, _, _, _, rfl, _⟩ := h; rfl) | (obtain ⟨_, _, _, _, _, _, _, _, _, _, _, rfl, _⟩ := h; rfl) | (obtain ⟨_, _, _, _, _, _, _, _, _, _, _, _, rfl, _⟩ := h; rfl) | (obtain ⟨_, _, _, _, _, _, _, _, _, _, _, _, _, rfl, _⟩ := h; rfl) | (obtain ⟨_, _, _, _, _, _, _, _, _, _, _, _, _, _, rfl, _⟩ := h; rfl) | (obtain ⟨_, _, _, _, _, _, _, _, _, _, _, _, _, _, _, rfl, _⟩ := h; rfl) | (obtain ⟨_, _, _, _, _, _, _, _, _, _, _, _, _, _, _, _, rfl, _⟩ := h; rfl) | (obtain ⟨_, _, _, _, _, _, _, _, _, _, _, _, _, _, _, _, _, rfl, _⟩ := h; rfl) | (obtain ⟨_, _, _, _, _, _, _, _, _, _, _, _, _, _, _, _, _, _, rfl, _⟩ := h; rfl) | (obtain ⟨_, _, _, _, _, _, _, _, _, _, _, _, _, _, _, _, _, _, _, rfl, _⟩ := h; rfl) | (obtain ⟨_, _, _, _, _, _, _, _, _, _, _, _, _, _, _, _, _, _, _, _, rfl, _⟩ := h; rfl) | (obtain ⟨_, _, _, _, _, _, _, _, _, _, _, _, _, _, _, _, _, _, _, _, _, rfl, _⟩ := h; rfl) | (obtain ⟨_, _, _, _, _, _, _, _, _, _, _, _, _, _, _, _, _, _, _, _, _, _, rfl, _⟩ := h; rfl) | (obtain ⟨_, _, _, _, _, _, _, _, _, _, _, _, _, _, _, _, _, _, _, _, _, _, _, rfl, _⟩ := h; rfl) | (obtain ⟨_, _, _, _, _, _, _, _, _, _, _, _, _, _, _, _, _, _, _, _, _, _, _, _, rfl, _⟩ := h; rfl) | (obtain ⟨_, _, _, _, _, _, _, _, _, _, _, _, _, _, _, _, _, _, _, _, _, _, _, _, _, rfl, _⟩ := h; rfl)) fun cdv A outer s H E hr tk => ⟨_, t_ask_limits M (by decide) (F_form_depth M D) (by decide) (F_form_size M D) (by decide) hr tk, fun ts K0 Z0 h => pl_ask_limits (He.ga K) ts K0 Z0 h⟩
theorem F_read_form (M : Md P w K mg base) (D : Ds K mg) : Fn1 P w K mg base 6 "read_form" ["text"] (spP K (g_read_form (He.ga K)).pf) :=
  fn_PT (k := 5) D.d_read_form sc_read_form (fun ts K0 Z0 h => by first | (obtain ⟨rfl, _⟩ := h; rfl) | (obtain ⟨_, rfl, _⟩ := h; rfl) | (obtain ⟨_, _, rfl, _⟩ := h; rfl) | (obtain ⟨_, _, _, rfl, _⟩ := h; rfl) | (obtain ⟨_, _, _, _, rfl, _⟩ := h; rfl) | (obtain ⟨_, _, _, _, _, rfl, _⟩ := h; rfl) | (obtain ⟨_, _, _, _, _, _, rfl, _⟩ := h; rfl) | (obtain ⟨_, _, _, _, _, _, _, rfl, _⟩ := h; rfl) | (obtain ⟨_, _, _, _, _, _, _, _, rfl, _⟩ := h; rfl) | (obtain ⟨_, _, _, _, _, _, _, _, _, rfl, _⟩ := h; rfl) | (obtain ⟨_, _, _, _, _, _, _, _, _, _, rfl, _⟩ := h; rfl) | (obtain ⟨_, _, _, _, _, _, _, _, _, _, _, rfl, _⟩ := h; rfl) | (obtain ⟨_, _, _, _, _, _, _, _, _, _, _, _, rfl, _⟩ := h; rfl) | (obtain ⟨_, _, _, _, _, _, _, _, _, _, _, _, _, rfl, _⟩ := h; rfl) | (obtain ⟨_, _, _, _, _, _, _, _, _, _, _, _, _, _, rfl, _⟩ := h; rfl) | (obtain ⟨_, _, _, _, _, _, _, _, _, _, _, _, _, _, _, rfl, _⟩ := h; rfl) | (obtain ⟨_, _, _, _, _, _, _, _, _, _, _, _, _, _, _, _, rfl, _⟩ := h; rfl) | (obtain ⟨_, _, _, _, _, _, _, _, _, _, _, _, _, _, _, _, _, rfl, _⟩ := h; rfl) | (obtain ⟨_, _, _, _, _, _, _, _, _, _, _, _, _, _, _, _, _, _, rfl, _⟩ := h; rfl) | (obtain ⟨_, _, _, _, _, _, _, _, _, _, _, _, _, _, _, _, _, _, _, rfl, _⟩ := h; rfl) | (obtain ⟨_, _, _, _, _, _, _, _, _, _, _, _, _, _, _, _, _, _, _, _, rfl, _⟩ := h; rfl) | (obtain ⟨_, _, _, _, _, _, _, _, _, _, _, _, _, _, _, _, _, _, _, _, _, rfl, _⟩ := h; rfl) | (obtain ⟨_, _, _, _, _, _, _, _, _, _, _, _, _, _, _, _, _, _, _, _, _, _, rfl, _⟩ := h; rfl) | (obtain ⟨_, _, _, _, _, _, _, _, _, _, _, _, _, _, _, _, _, _, _, _, _, _, _, rfl, _⟩ := h; rfl) | (obtain ⟨_, _, _, _, _, _, _, _, _, _, _, _, _, _, _, _, _, _, _, _, _, _, _, _, rfl, _⟩ := h; rfl) | (obtain ⟨_, _, _, _, _, _, _, _, _, _, _, _, _, _, _, _, _, _, _, _, _, _, _, _, _, rfl, _⟩ := h; rfl)) fun cdv A outer s H E hr tk => ⟨_, t_read_form M (F_form_at M D) (by decide) (F_ask_end M D) (by decide) (F_ask_limits M D) (by decide) hr tk, fun ts K0 Z0 h => pl_read_form (He.ga K) ts K0 Z0 h⟩
theorem F_read_row (M : Md P w K mg base) (D : Ds K mg) : Fn1 P w K mg base 6 "read_row" ["text"] (spP K (g_read_row (He.ga K)).pf) :=
  fn_PT (k := 5) D.d_read_row sc_read_row (fun ts K0 Z0 h => by first | (obtain ⟨rfl, _⟩ := h; rfl) | (obtain ⟨_, rfl, _⟩ := h; rfl) | (obtain ⟨_, _, rfl, _⟩ := h; rfl) | (obtain ⟨_, _, _, rfl, _⟩ := h; rfl) | (obtain ⟨_, _, _, _, rfl, _⟩ := h; rfl) | (obtain ⟨_, _, _, _, _, rfl, _⟩ := h; rfl) | (obtain ⟨_, _, _, _, _, _, rfl, _⟩ := h; rfl) | (obtain ⟨_, _, _, _, _, _, _, rfl, _⟩ := h; rfl) | (obtain ⟨_, _, _, _, _, _, _, _, rfl, _⟩ := h; rfl) | (obtain ⟨_, _, _, _, _, _, _, _, _, rfl, _⟩ := h; rfl) | (obtain ⟨_, _, _, _, _, _, _, _, _, _, rfl, _⟩ := h; rfl) | (obtain ⟨_, _, _, _, _, _, _, _, _, _, _, rfl, _⟩ := h; rfl) | (obtain ⟨_, _, _, _, _, _, _, _, _, _, _, _, rfl, _⟩ := h; rfl) | (obtain ⟨_, _, _, _, _, _, _, _, _, _, _, _, _, rfl, _⟩ := h; rfl) | (obtain ⟨_, _, _, _, _, _, _, _, _, _, _, _, _, _, rfl, _⟩ := h; rfl) | (obtain ⟨_, _, _, _, _, _, _, _, _, _, _, _, _, _, _, rfl, _⟩ := h; rfl) | (obtain ⟨_, _, _, _, _, _, _, _, _, _, _, _, _, _, _, _, rfl, _⟩ := h; rfl) | (obtain ⟨_, _, _, _, _, _, _, _, _, _, _, _, _, _, _, _, _, rfl, _⟩ := h; rfl) | (obtain ⟨_, _, _, _, _, _, _, _, _, _, _, _, _, _, _, _, _, _, rfl, _⟩ := h; rfl) | (obtain ⟨_, _, _, _, _, _, _, _, _, _, _, _, _, _, _, _, _, _, _, rfl, _⟩ := h; rfl) | (obtain ⟨_, _, _, _, _, _, _, _, _, _, _, _, _, _, _, _, _, _, _, _, rfl, _⟩ := h; rfl) | (obtain ⟨_, _, _, _, _, _, _, _, _, _, _, _, _, _, _, _, _, _, _, _, _, rfl, _⟩ := h; rfl) | (obtain ⟨_, _, _, _, _, _, _, _, _, _, _, _, _, _, _, _, _, _, _, _, _, _, rfl, _⟩ := h; rfl) | (obtain ⟨_, _, _, _, _, _, _, _, _, _, _, _, _, _, _, _, _, _, _, _, _, _, _, rfl, _⟩ := h; rfl) | (obtain ⟨_, _, _, _, _, _, _, _, _, _, _, _, _, _, _, _, _, _, _, _, _, _, _, _, rfl, _⟩ := h; rfl) | (obtain ⟨_, _, _, _, _, _, _, _, _, _, _, _, _, _, _, _, _, _, _, _, _, _, _, _, _, rfl, _⟩ := h; rfl)) fun cdv A outer s H E hr tk => ⟨_, t_read_row M (F_form_at M D) (by decide) (F_after_sign M D) (by decide) (F_ask_end M D) (by decide) (F_ask_limits M D) (by decide) hr tk, fun ts K0 Z0 h => pl_read_row (He.ga K) ts K0 Z0 h⟩
theorem F__law_mixed (M : Md P w K mg base) (D : Ds K mg) : Fn1 P w K mg base 1 "_law_mixed" ["number"] (spP K (g__law_mixed).pf) :=
  fn_PT (k := 0) D.d__law_mixed sc__law_mixed (fun ts K0 Z0 h => by first | (obtain ⟨rfl, _⟩ := h; rfl) | (obtain ⟨_, rfl, _⟩ := h; rfl) | (obtain ⟨_, _, rfl, _⟩ := h; rfl) | (obtain ⟨_, _, _, rfl, _⟩ := h; rfl) | (obtain ⟨_, _, _, _, rfl, _⟩ := h; rfl) | (obtain ⟨_, _, _, _, _, rfl, _⟩ := h; rfl) | (obtain ⟨_, _, _, _, _, _, rfl, _⟩ := h; rfl) | (obtain ⟨_, _, _, _, _, _, _, rfl, _⟩ := h; rfl) | (obtain ⟨_, _, _, _, _, _, _, _, rfl, _⟩ := h; rfl) | (obtain ⟨_, _, _, _, _, _, _, _, _, rfl, _⟩ := h; rfl) | (obtain ⟨_, _, _, _, _, _, _, _, _, _, rfl, _⟩ := h; rfl) | (obtain ⟨_, _, _, _, _, _, _, _, _, _, _, rfl, _⟩ := h; rfl) | (obtain ⟨_, _, _, _, _, _, _, _, _, _, _, _, rfl, _⟩ := h; rfl) | (obtain ⟨_, _, _, _, _, _, _, _, _, _, _, _, _, rfl, _⟩ := h; rfl) | (obtain ⟨_, _, _, _, _, _, _, _, _, _, _, _, _, _, rfl, _⟩ := h; rfl) | (obtain ⟨_, _, _, _, _, _, _, _, _, _, _, _, _, _, _, rfl, _⟩ := h; rfl) | (obtain ⟨_, _, _, _, _, _, _, _, _, _, _, _, _, _, _, _, rfl, _⟩ := h; rfl) | (obtain ⟨_, _, _, _, _, _, _, _, _, _, _, _, _, _, _, _, _, rfl, _⟩ := h; rfl) | (obtain ⟨_, _, _, _, _, _, _, _, _, _, _, _, _, _, _, _, _, _, rfl, _⟩ := h; rfl) | (obtain ⟨_, _, _, _, _, _, _, _, _, _, _, _, _, _, _, _, _, _, _, rfl, _⟩ := h; rfl) | (obtain ⟨_, _, _, _, _, _, _, _, _, _, _, _, _, _, _, _, _, _, _, _, rfl, _⟩ := h; rfl) | (obtain ⟨_, _, _, _, _, _, _, _, _, _, _, _, _, _, _, _, _, _, _, _, _, rfl, _⟩ := h; rfl) | (obtain ⟨_, _, _, _, _, _, _, _, _, _, _, _, _, _, _, _, _, _, _, _, _, _, rfl, _⟩ := h; rfl) | (obtain ⟨_, _, _, _, _, _, _, _, _, _, _, _, _, _, _, _, _, _, _, _, _, _, _, rfl, _⟩ := h; rfl) | (obtain ⟨_, _, _, _, _, _, _, _, _, _, _, _, _, _, _, _, _, _, _, _, _, _, _, _, rfl, _⟩ := h; rfl) | (obtain ⟨_, _, _, _, _, _, _, _, _, _, _, _, _, _, _, _, _, _, _, _, _, _, _, _, _, rfl, _⟩ := h; rfl)) fun cdv A outer s H E hr tk => ⟨_, t__law_mixed M  hr tk, fun ts K0 Z0 h => pl__law_mixed  ts K0 Z0 h⟩
theorem F__law_store (M : Md P w K mg base) (D : Ds K mg) : Fn1 P w K mg base 2 "_law_store" ["script"] (spP K (g__law_store).pf) :=
  fn_PT (k := 1) D.d__law_store sc__law_store (fun ts K0 Z0 h => by first | (obtain ⟨rfl, _⟩ := h; rfl) | (obtain ⟨_, rfl, _⟩ := h; rfl) | (obtain ⟨_, _, rfl, _⟩ := h; rfl) | (obtain ⟨_, _, _, rfl, _⟩ := h; rfl) | (obtain ⟨_, _, _, _, rfl, _⟩ := h; rfl) | (obtain ⟨_, _, _, _, _, rfl, _⟩ := h; rfl) | (obtain ⟨_, _, _, _, _, _, rfl, _⟩ := h; rfl) | (obtain ⟨_, _, _, _, _, _, _, rfl, _⟩ := h; rfl) | (obtain ⟨_, _, _, _, _, _, _, _, rfl, _⟩ := h; rfl) | (obtain ⟨_, _, _, _, _, _, _, _, _, rfl, _⟩ := h; rfl) | (obtain ⟨_, _, _, _, _, _, _, _, _, _, rfl, _⟩ := h; rfl) | (obtain ⟨_, _, _, _, _, _, _, _, _, _, _, rfl, _⟩ := h; rfl) | (obtain ⟨_, _, _, _, _, _, _, _, _, _, _, _, rfl, _⟩ := h; rfl) | (obtain ⟨_, _, _, _, _, _, _, _, _, _, _, _, _, rfl, _⟩ := h; rfl) | (obtain ⟨_, _, _, _, _, _, _, _, _, _, _, _, _, _, rfl, _⟩ := h; rfl) | (obtain ⟨_, _, _, _, _, _, _, _, _, _, _, _, _, _, _, rfl, _⟩ := h; rfl) | (obtain ⟨_, _, _, _, _, _, _, _, _, _, _, _, _, _, _, _, rfl, _⟩ := h; rfl) | (obtain ⟨_, _, _, _, _, _, _, _, _, _, _, _, _, _, _, _, _, rfl, _⟩ := h; rfl) | (obtain ⟨_, _, _, _, _, _, _, _, _, _, _, _, _, _, _, _, _, _, rfl, _⟩ := h; rfl) | (obtain ⟨_, _, _, _, _, _, _, _, _, _, _, _, _, _, _, _, _, _, _, rfl, _⟩ := h; rfl) | (obtain ⟨_, _, _, _, _, _, _, _, _, _, _, _, _, _, _, _, _, _, _, _, rfl, _⟩ := h; rfl) | (obtain ⟨_, _, _, _, _, _, _, _, _, _, _, _, _, _, _, _, _, _, _, _, _, rfl, _⟩ := h; rfl) | (obtain ⟨_, _, _, _, _, _, _, _, _, _, _, _, _, _, _, _, _, _, _, _, _, _, rfl, _⟩ := h; rfl) | (obtain ⟨_, _, _, _, _, _, _, _, _, _, _, _, _, _, _, _, _, _, _, _, _, _, _, rfl, _⟩ := h; rfl) | (obtain ⟨_, _, _, _, _, _, _, _, _, _, _, _, _, _, _, _, _, _, _, _, _, _, _, _, rfl, _⟩ := h; rfl) | (obtain ⟨_, _, _, _, _, _, _, _, _, _, _, _, _, _, _, _, _, _, _, _, _, _, _, _, _, rfl, _⟩ := h; rfl)) fun cdv A outer s H E hr tk => ⟨_, t__law_store M (F__law_mixed M D) (by decide) hr tk, fun ts K0 Z0 h => pl__law_store  ts K0 Z0 h⟩
theorem F__law_advance (M : Md P w K mg base) (D : Ds K mg) : Fn1 P w K mg base 1 "_law_advance" ["store"] (spI K (g__law_advance).pf) :=
  fn_IT (k := 0) D.d__law_advance sc__law_advance (fun o ts K0 Z0 h => by first | (obtain ⟨rfl, _⟩ := h; rfl) | (obtain ⟨_, rfl, _⟩ := h; rfl) | (obtain ⟨_, _, rfl, _⟩ := h; rfl) | (obtain ⟨_, _, _, rfl, _⟩ := h; rfl) | (obtain ⟨_, _, _, _, rfl, _⟩ := h; rfl) | (obtain ⟨_, _, _, _, _, rfl, _⟩ := h; rfl) | (obtain ⟨_, _, _, _, _, _, rfl, _⟩ := h; rfl) | (obtain ⟨_, _, _, _, _, _, _, rfl, _⟩ := h; rfl) | (obtain ⟨_, _, _, _, _, _, _, _, rfl, _⟩ := h; rfl) | (obtain ⟨_, _, _, _, _, _, _, _, _, rfl, _⟩ := h; rfl) | (obtain ⟨_, _, _, _, _, _, _, _, _, _, rfl, _⟩ := h; rfl) | (obtain ⟨_, _, _, _, _, _, _, _, _, _, _, rfl, _⟩ := h; rfl) | (obtain ⟨_, _, _, _, _, _, _, _, _, _, _, _, rfl, _⟩ := h; rfl) | (obtain ⟨_, _, _, _, _, _, _, _, _, _, _, _, _, rfl, _⟩ := h; rfl) | (obtain ⟨_, _, _, _, _, _, _, _, _, _, _, _, _, _, rfl, _⟩ := h; rfl) | (obtain ⟨_, _, _, _, _, _, _, _, _, _, _, _, _, _, _, rfl, _⟩ := h; rfl) | (obtain ⟨_, _, _, _, _, _, _, _, _, _, _, _, _, _, _, _, rfl, _⟩ := h; rfl) | (obtain ⟨_, _, _, _, _, _, _, _, _, _, _, _, _, _, _, _, _, rfl, _⟩ := h; rfl) | (obtain ⟨_, _, _, _, _, _, _, _, _, _, _, _, _, _, _, _, _, _, rfl, _⟩ := h; rfl) | (obtain ⟨_, _, _, _, _, _, _, _, _, _, _, _, _, _, _, _, _, _, _, rfl, _⟩ := h; rfl) | (obtain ⟨_, _, _, _, _, _, _, _, _, _, _, _, _, _, _, _, _, _, _, _, rfl, _⟩ := h; rfl) | (obtain ⟨_, _, _, _, _, _, _, _, _, _, _, _, _, _, _, _, _, _, _, _, _, rfl, _⟩ := h; rfl) | (obtain ⟨_, _, _, _, _, _, _, _, _, _, _, _, _, _, _, _, _, _, _, _, _, _, rfl, _⟩ := h; rfl) | (obtain ⟨_, _, _, _, _, _, _, _, _, _, _, _, _, _, _, _, _, _, _, _, _, _, _, rfl, _⟩ := h; rfl) | (obtain ⟨_, _, _, _, _, _, _, _, _, _, _, _, _, _, _, _, _, _, _, _, _, _, _, _, rfl, _⟩ := h; rfl) | (obtain ⟨_, _, _, _, _, _, _, _, _, _, _, _, _, _, _, _, _, _, _, _, _, _, _, _, _, rfl, _⟩ := h; rfl)) fun cdv A outer s H E hr tk => ⟨_, t__law_advance M  hr tk, fun v0 o ts K0 Z0 h => pl__law_advance  v0 o ts K0 Z0 h⟩
theorem F__law_take (M : Md P w K mg base) (D : Ds K mg) : Fn1 P w K mg base 2 "_law_take" ["store", "many"] (spI K (g__law_take).pf) :=
  fn_IT (k := 1) D.d__law_take sc__law_take (fun o ts K0 Z0 h => by first | (obtain ⟨rfl, _⟩ := h; rfl) | (obtain ⟨_, rfl, _⟩ := h; rfl) | (obtain ⟨_, _, rfl, _⟩ := h; rfl) | (obtain ⟨_, _, _, rfl, _⟩ := h; rfl) | (obtain ⟨_, _, _, _, rfl, _⟩ := h; rfl) | (obtain ⟨_, _, _, _, _, rfl, _⟩ := h; rfl) | (obtain ⟨_, _, _, _, _, _, rfl, _⟩ := h; rfl) | (obtain ⟨_, _, _, _, _, _, _, rfl, _⟩ := h; rfl) | (obtain ⟨_, _, _, _, _, _, _, _, rfl, _⟩ := h; rfl) | (obtain ⟨_, _, _, _, _, _, _, _, _, rfl, _⟩ := h; rfl) | (obtain ⟨_, _, _, _, _, _, _, _, _, _, rfl, _⟩ := h; rfl) | (obtain ⟨_, _, _, _, _, _, _, _, _, _, _, rfl, _⟩ := h; rfl) | (obtain ⟨_, _, _, _, _, _, _, _, _, _, _, _, rfl, _⟩ := h; rfl) | (obtain ⟨_, _, _, _, _, _, _, _, _, _, _, _, _, rfl, _⟩ := h; rfl) | (obtain ⟨_, _, _, _, _, _, _, _, _, _, _, _, _, _, rfl, _⟩ := h; rfl) | (obtain ⟨_, _, _, _, _, _, _, _, _, _, _, _, _, _, _, rfl, _⟩ := h; rfl) | (obtain ⟨_, _, _, _, _, _, _, _, _, _, _, _, _, _, _, _, rfl, _⟩ := h; rfl) | (obtain ⟨_, _, _, _, _, _, _, _, _, _, _, _, _, _, _, _, _, rfl, _⟩ := h; rfl) | (obtain ⟨_, _, _, _, _, _, _, _, _, _, _, _, _, _, _, _, _, _, rfl, _⟩ := h; rfl) | (obtain ⟨_, _, _, _, _, _, _, _, _, _, _, _, _, _, _, _, _, _, _, rfl, _⟩ := h; rfl) | (obtain ⟨_, _, _, _, _, _, _, _, _, _, _, _, _, _, _, _, _, _, _, _, rfl, _⟩ := h; rfl) | (obtain ⟨_, _, _, _, _, _, _, _, _, _, _, _, _, _, _, _, _, _, _, _, _, rfl, _⟩ := h; rfl) | (obtain ⟨_, _, _, _, _, _, _, _, _, _, _, _, _, _, _, _, _, _, _, _, _, _, rfl, _⟩ := h; rfl) | (obtain ⟨_, _, _, _, _, _, _, _, _, _, _, _, _, _, _, _, _, _, _, _, _, _, _, rfl, _⟩ := h; rfl) | (obtain ⟨_, _, _, _, _, _, _, _, _, _, _, _, _, _, _, _, _, _, _, _, _, _, _, _, rfl, _⟩ := h; rfl) | (obtain ⟨_, _, _, _, _, _, _, _, _, _, _, _, _, _, _, _, _, _, _, _, _, _, _, _, _, rfl, _⟩ := h; rfl)) fun cdv A outer s H E hr tk => ⟨_, t__law_take M (F__law_advance M D) (by decide) (F__law_mixed M D) (by decide) hr tk, fun v0 o ts K0 Z0 h => pl__law_take  v0 o ts K0 Z0 h⟩
theorem F__law_pick (M : Md P w K mg base) (D : Ds K mg) : Fn1 P w K mg base 3 "_law_pick" ["store", "things"] (spI K (g__law_pick).pf) :=
  fn_IT (k := 2) D.d__law_pick sc__law_pick (fun o ts K0 Z0 h => by first | (obtain ⟨rfl, _⟩ := h; rfl) | (obtain ⟨_, rfl, _⟩ := h; rfl) | (obtain ⟨_, _, rfl, _⟩ := h; rfl) | (obtain ⟨_, _, _, rfl, _⟩ := h; rfl) | (obtain ⟨_, _, _, _, rfl, _⟩ := h; rfl) | (obtain ⟨_, _, _, _, _, rfl, _⟩ := h; rfl) | (obtain ⟨_, _, _, _, _, _, rfl, _⟩ := h; rfl) | (obtain ⟨_, _, _, _, _, _, _, rfl, _⟩ := h; rfl) | (obtain ⟨_, _, _, _, _, _, _, _, rfl, _⟩ := h; rfl) | (obtain ⟨_, _, _, _, _, _, _, _, _, rfl, _⟩ := h; rfl) | (obtain ⟨_, _, _, _, _, _, _, _, _, _, rfl, _⟩ := h; rfl) | (obtain ⟨_, _, _, _, _, _, _, _, _, _, _, rfl, _⟩ := h; rfl) | (obtain ⟨_, _, _, _, _, _, _, _, _, _, _, _, rfl, _⟩ := h; rfl) | (obtain ⟨_, _, _, _, _, _, _, _, _, _, _, _, _, rfl, _⟩ := h; rfl) | (obtain ⟨_, _, _, _, _, _, _, _, _, _, _, _, _, _, rfl, _⟩ := h; rfl) | (obtain ⟨_, _, _, _, _, _, _, _, _, _, _, _, _, _, _, rfl, _⟩ := h; rfl) | (obtain ⟨_, _, _, _, _, _, _, _, _, _, _, _, _, _, _, _, rfl, _⟩ := h; rfl) | (obtain ⟨_, _, _, _, _, _, _, _, _, _, _, _, _, _, _, _, _, rfl, _⟩ := h; rfl) | (obtain ⟨_, _, _, _, _, _, _, _, _, _, _, _, _, _, _, _, _, _, rfl, _⟩ := h; rfl) | (obtain ⟨_, _, _, _, _, _, _, _, _, _, _, _, _, _, _, _, _, _, _, rfl, _⟩ := h; rfl) | (obtain ⟨_, _, _, _, _, _, _, _, _, _, _, _, _, _, _, _, _, _, _, _, rfl, _⟩ := h; rfl) | (obtain ⟨_, _, _, _, _, _, _, _, _, _, _, _, _, _, _, _, _, _, _, _, _, rfl, _⟩ := h; rfl) | (obtain ⟨_, _, _, _, _, _, _, _, _, _, _, _, _, _, _, _, _, _, _, _, _, _, rfl, _⟩ := h; rfl) | (obtain ⟨_, _, _, _, _, _, _, _, _, _, _, _, _, _, _, _, _, _, _, _, _, _, _, rfl, _⟩ := h; rfl) | (obtain ⟨_, _, _, _, _, _, _, _, _, _, _, _, _, _, _, _, _, _, _, _, _, _, _, _, rfl, _⟩ := h; rfl) | (obtain ⟨_, _, _, _, _, _, _, _, _, _, _, _, _, _, _, _, _, _, _, _, _, _, _, _, _, rfl, _⟩ := h; rfl)) fun cdv A outer s H E hr tk => ⟨_, t__law_pick M (F__law_take M D) (by decide) hr tk, fun v0 o ts K0 Z0 h => pl__law_pick  v0 o ts K0 Z0 h⟩
theorem F__law_pick_W (M : Md P w K mg base) (D : Ds K mg) : Fn1 P w K mg base 3 "_law_pick" ["store", "things"] (spI K (g__law_pickW).pf) :=
  fn_IT (k := 2) D.d__law_pick sc__law_pick (fun o ts K0 Z0 h => by first | (obtain ⟨rfl, _⟩ := h; rfl) | (obtain ⟨_, rfl, _⟩ := h; rfl) | (obtain ⟨_, _, rfl, _⟩ := h; rfl) | (obtain ⟨_, _, _, rfl, _⟩ := h; rfl) | (obtain ⟨_, _, _, _, rfl, _⟩ := h; rfl) | (obtain ⟨_, _, _, _, _, rfl, _⟩ := h; rfl) | (obtain ⟨_, _, _, _, _, _, rfl, _⟩ := h; rfl) | (obtain ⟨_, _, _, _, _, _, _, rfl, _⟩ := h; rfl) | (obtain ⟨_, _, _, _, _, _, _, _, rfl, _⟩ := h; rfl) | (obtain ⟨_, _, _, _, _, _, _, _, _, rfl, _⟩ := h; rfl) | (obtain ⟨_, _, _, _, _, _, _, _, _, _, rfl, _⟩ := h; rfl) | (obtain ⟨_, _, _, _, _, _, _, _, _, _, _, rfl, _⟩ := h; rfl) | (obtain ⟨_, _, _, _, _, _, _, _, _, _, _, _, rfl, _⟩ := h; rfl) | (obtain ⟨_, _, _, _, _, _, _, _, _, _, _, _, _, rfl, _⟩ := h; rfl) | (obtain ⟨_, _, _, _, _, _, _, _, _, _, _, _, _, _, rfl, _⟩ := h; rfl) | (obtain ⟨_, _, _, _, _, _, _, _, _, _, _, _, _, _, _, rfl, _⟩ := h; rfl) | (obtain ⟨_, _, _, _, _, _, _, _, _, _, _, _, _, _, _, _, rfl, _⟩ := h; rfl) | (obtain ⟨_, _, _, _, _, _, _, _, _, _, _, _, _, _, _, _, _, rfl, _⟩ := h; rfl) | (obtain ⟨_, _, _, _, _, _, _, _, _, _, _, _, _, _, _, _, _, _, rfl, _⟩ := h; rfl) | (obtain ⟨_, _, _, _, _, _, _, _, _, _, _, _, _, _, _, _, _, _, _, rfl, _⟩ := h; rfl) | (obtain ⟨_, _, _, _, _, _, _, _, _, _, _, _, _, _, _, _, _, _, _, _, rfl, _⟩ := h; rfl) | (obtain ⟨_, _, _, _, _, _, _, _, _, _, _, _, _, _, _, _, _, _, _, _, _, rfl, _⟩ := h; rfl) | (obtain ⟨_, _, _, _, _, _, _, _, _, _, _, _, _, _, _, _, _, _, _, _, _, _, rfl, _⟩ := h; rfl) | (obtain ⟨_, _, _, _, _, _, _, _, _, _, _, _, _, _, _, _, _, _, _, _, _, _, _, rfl, _⟩ := h; rfl) | (obtain ⟨_, _, _, _, _, _, _, _, _, _, _, _, _, _, _, _, _, _, _, _, _, _, _, _, rfl, _⟩ := h; rfl) | (obtain ⟨_, _, _, _, _, _, _, _, _, _, _, _, _, _, _, _, _, _, _, _, _, _, _, _, _, rfl, _⟩ := h; rfl)) fun cdv A outer s H E hr tk => ⟨_, t__law_pick M (F__law_take M D) (by decide) hr tk, fun v0 o ts K0 Z0 h => pl__law_pickW  v0 o ts K0 Z0 h⟩
theorem F__law_amount (M : Md P w K mg base) (D : Ds K mg) : Fn1 P w K mg base 3 "_law_amount" ["store", "low", "high"] (spI K (g__law_amount).pf) :=
  fn_IT (k := 2) D.d__law_amount sc__law_amount (fun o ts K0 Z0 h => by first | (obtain ⟨rfl, _⟩ := h; rfl) | (obtain ⟨_, rfl, _⟩ := h; rfl) | (obtain ⟨_, _, rfl, _⟩ := h; rfl) | (obtain ⟨_, _, _, rfl, _⟩ := h; rfl) | (obtain ⟨_, _, _, _, rfl, _⟩ := h; rfl) | (obtain ⟨_, _, _, _, _, rfl, _⟩ := h; rfl) | (obtain ⟨_, _, _, _, _, _, rfl, _⟩ := h; rfl) | (obtain ⟨_, _, _, _, _, _, _, rfl, _⟩ := h; rfl) | (obtain ⟨_, _, _, _, _, _, _, _, rfl, _⟩ := h; rfl) | (obtain ⟨_, _, _, _, _, _, _, _, _, rfl, _⟩ := h; rfl) | (obtain ⟨_, _, _, _, _, _, _, _, _, _, rfl, _⟩ := h; rfl) | (obtain ⟨_, _, _, _, _, _, _, _, _, _, _, rfl, _⟩ := h; rfl) | (obtain ⟨_, _, _, _, _, _, _, _, _, _, _, _, rfl, _⟩ := h; rfl) | (obtain ⟨_, _, _, _, _, _, _, _, _, _, _, _, _, rfl, _⟩ := h; rfl) | (obtain ⟨_, _, _, _, _, _, _, _, _, _, _, _, _, _, rfl, _⟩ := h; rfl) | (obtain ⟨_, _, _, _, _, _, _, _, _, _, _, _, _, _, _, rfl, _⟩ := h; rfl) | (obtain ⟨_, _, _, _, _, _, _, _, _, _, _, _, _, _, _, _, rfl, _⟩ := h; rfl) | (obtain ⟨_, _, _, _, _, _, _, _, _, _, _, _, _, _, _, _, _, rfl, _⟩ := h; rfl) | (obtain ⟨_, _, _, _, _, _, _, _, _, _, _, _, _, _, _, _, _, _, rfl, _⟩ := h; rfl) | (obtain ⟨_, _, _, _, _, _, _, _, _, _, _, _, _, _, _, _, _, _, _, rfl, _⟩ := h; rfl) | (obtain ⟨_, _, _, _, _, _, _, _, _, _, _, _, _, _, _, _, _, _, _, _, rfl, _⟩ := h; rfl) | (obtain ⟨_, _, _, _, _, _, _, _, _, _, _, _, _, _, _, _, _, _, _, _, _, rfl, _⟩ := h; rfl) | (obtain ⟨_, _, _, _, _, _, _, _, _, _, _, _, _, _, _, _, _, _, _, _, _, _, rfl, _⟩ := h; rfl) | (obtain ⟨_, _, _, _, _, _, _, _, _, _, _, _, _, _, _, _, _, _, _, _, _, _, _, rfl, _⟩ := h; rfl) | (obtain ⟨_, _, _, _, _, _, _, _, _, _, _, _, _, _, _, _, _, _, _, _, _, _, _, _, rfl, _⟩ := h; rfl) | (obtain ⟨_, _, _, _, _, _, _, _, _, _, _, _, _, _, _, _, _, _, _, _, _, _, _, _, _, rfl, _⟩ := h; rfl)) fun cdv A outer s H E hr tk => ⟨_, t__law_amount M (F__law_take M D) (by decide) hr tk, fun v0 o ts K0 Z0 h => pl__law_amount  v0 o ts K0 Z0 h⟩
theorem F__law_letters (M : Md P w K mg base) (D : Ds K mg) : Fn1 P w K mg base 3 "_law_letters" ["store", "many"] (spI K (g__law_letters06).pf) :=
  fn_IT (k := 2) D.d__law_letters sc__law_letters (fun o ts K0 Z0 h => by first | (obtain ⟨rfl, _⟩ := h; rfl) | (obtain ⟨_, rfl, _⟩ := h; rfl) | (obtain ⟨_, _, rfl, _⟩ := h; rfl) | (obtain ⟨_, _, _, rfl, _⟩ := h; rfl) | (obtain ⟨_, _, _, _, rfl, _⟩ := h; rfl) | (obtain ⟨_, _, _, _, _, rfl, _⟩ := h; rfl) | (obtain ⟨_, _, _, _, _, _, rfl, _⟩ := h; rfl) | (obtain ⟨_, _, _, _, _, _, _, rfl, _⟩ := h; rfl) | (obtain ⟨_, _, _, _, _, _, _, _, rfl, _⟩ := h; rfl) | (obtain ⟨_, _, _, _, _, _, _, _, _, rfl, _⟩ := h; rfl) | (obtain ⟨_, _, _, _, _, _, _, _, _, _, rfl, _⟩ := h; rfl) | (obtain ⟨_, _, _, _, _, _, _, _, _, _, _, rfl, _⟩ := h; rfl) | (obtain ⟨_, _, _, _, _, _, _, _, _, _, _, _, rfl, _⟩ := h; rfl) | (obtain ⟨_, _, _, _, _, _, _, _, _, _, _, _, _, rfl, _⟩ := h; rfl) | (obtain ⟨_, _, _, _, _, _, _, _, _, _, _, _, _, _, rfl, _⟩ := h; rfl) | (obtain ⟨_, _, _, _, _, _, _, _, _, _, _, _, _, _, _, rfl, _⟩ := h; rfl) | (obtain ⟨_, _, _, _, _, _, _, _, _, _, _, _, _, _, _, _, rfl, _⟩ := h; rfl) | (obtain ⟨_, _, _, _, _, _, _, _, _, _, _, _, _, _, _, _, _, rfl, _⟩ := h; rfl) | (obtain ⟨_, _, _, _, _, _, _, _, _, _, _, _, _, _, _, _, _, _, rfl, _⟩ := h; rfl) | (obtain ⟨_, _, _, _, _, _, _, _, _, _, _, _, _, _, _, _, _, _, _, rfl, _⟩ := h; rfl) | (obtain ⟨_, _, _, _, _, _, _, _, _, _, _, _, _, _, _, _, _, _, _, _, rfl, _⟩ := h; rfl) | (obtain ⟨_, _, _, _, _, _, _, _, _, _, _, _, _, _, _, _, _, _, _, _, _, rfl, _⟩ := h; rfl) | (obtain ⟨_, _, _, _, _, _, _, _, _, _, _, _, _, _, _, _, _, _, _, _, _, _, rfl, _⟩ := h; rfl) | (obtain ⟨_, _, _, _, _, _, _, _, _, _, _, _, _, _, _, _, _, _, _, _, _, _, _, rfl, _⟩ := h; rfl) | (obtain ⟨_, _, _, _, _, _, _, _, _, _, _, _, _, _, _, _, _, _, _, _, _, _, _, _, rfl, _⟩ := h; rfl) | (obtain ⟨_, _, _, _, _, _, _, _, _, _, _, _, _, _, _, _, _, _, _, _, _, _, _, _, _, rfl, _⟩ := h; rfl)) fun cdv A outer s H E hr tk => ⟨_, t__law_letters M (F__law_take M D) (by decide) hr tk, fun v0 o ts K0 Z0 h => pl__law_letters06  v0 o ts K0 Z0 h⟩
theorem F__law_leaf (M : Md P w K mg base) (D : Ds K mg) : Fn1 P w K mg base 4 "_law_leaf" ["store", "kinds", "many"] (spI K (g__law_leaf06).pf) :=
  fn_IT (k := 3) D.d__law_leaf sc__law_leaf (fun o ts K0 Z0 h => by first | (obtain ⟨rfl, _⟩ := h; rfl) | (obtain ⟨_, rfl, _⟩ := h; rfl) | (obtain ⟨_, _, rfl, _⟩ := h; rfl) | (obtain ⟨_, _, _, rfl, _⟩ := h; rfl) | (obtain ⟨_, _, _, _, rfl, _⟩ := h; rfl) | (obtain ⟨_, _, _, _, _, rfl, _⟩ := h; rfl) | (obtain ⟨_, _, _, _, _, _, rfl, _⟩ := h; rfl) | (obtain ⟨_, _, _, _, _, _, _, rfl, _⟩ := h; rfl) | (obtain ⟨_, _, _, _, _, _, _, _, rfl, _⟩ := h; rfl) | (obtain ⟨_, _, _, _, _, _, _, _, _, rfl, _⟩ := h; rfl) | (obtain ⟨_, _, _, _, _, _, _, _, _, _, rfl, _⟩ := h; rfl) | (obtain ⟨_, _, _, _, _, _, _, _, _, _, _, rfl, _⟩ := h; rfl) | (obtain ⟨_, _, _, _, _, _, _, _, _, _, _, _, rfl, _⟩ := h; rfl) | (obtain ⟨_, _, _, _, _, _, _, _, _, _, _, _, _, rfl, _⟩ := h; rfl) | (obtain ⟨_, _, _, _, _, _, _, _, _, _, _, _, _, _, rfl, _⟩ := h; rfl) | (obtain ⟨_, _, _, _, _, _, _, _, _, _, _, _, _, _, _, rfl, _⟩ := h; rfl) | (obtain ⟨_, _, _, _, _, _, _, _, _, _, _, _, _, _, _, _, rfl, _⟩ := h; rfl) | (obtain ⟨_, _, _, _, _, _, _, _, _, _, _, _, _, _, _, _, _, rfl, _⟩ := h; rfl) | (obtain ⟨_, _, _, _, _, _, _, _, _, _, _, _, _, _, _, _, _, _, rfl, _⟩ := h; rfl) | (obtain ⟨_, _, _, _, _, _, _, _, _, _, _, _, _, _, _, _, _, _, _, rfl, _⟩ := h; rfl) | (obtain ⟨_, _, _, _, _, _, _, _, _, _, _, _, _, _, _, _, _, _, _, _, rfl, _⟩ := h; rfl) | (obtain ⟨_, _, _, _, _, _, _, _, _, _, _, _, _, _, _, _, _, _, _, _, _, rfl, _⟩ := h; rfl) | (obtain ⟨_, _, _, _, _, _, _, _, _, _, _, _, _, _, _, _, _, _, _, _, _, _, rfl, _⟩ := h; rfl) | (obtain ⟨_, _, _, _, _, _, _, _, _, _, _, _, _, _, _, _, _, _, _, _, _, _, _, rfl, _⟩ := h; rfl) | (obtain ⟨_, _, _, _, _, _, _, _, _, _, _, _, _, _, _, _, _, _, _, _, _, _, _, _, rfl, _⟩ := h; rfl) | (obtain ⟨_, _, _, _, _, _, _, _, _, _, _, _, _, _, _, _, _, _, _, _, _, _, _, _, _, rfl, _⟩ := h; rfl)) fun cdv A outer s H E hr tk => ⟨_, t__law_leaf M (F__law_take M D) (by decide) (F__law_pick M D) (by decide) hr tk, fun v0 o ts K0 Z0 h => pl__law_leaf06  v0 o ts K0 Z0 h⟩
theorem F__law_form (M : Md P w K mg base) (D : Ds K mg) : Fn1 P w K mg base 5 "_law_form" ["store", "kinds", "many", "steps"] (spI K (g__law_form06).pf) :=
  fn_IT (k := 4) D.d__law_form sc__law_form (fun o ts K0 Z0 h => by first | (obtain ⟨rfl, _⟩ := h; rfl) | (obtain ⟨_, rfl, _⟩ := h; rfl) | (obtain ⟨_, _, rfl, _⟩ := h; rfl) | (obtain ⟨_, _, _, rfl, _⟩ := h; rfl) | (obtain ⟨_, _, _, _, rfl, _⟩ := h; rfl) | (obtain ⟨_, _, _, _, _, rfl, _⟩ := h; rfl) | (obtain ⟨_, _, _, _, _, _, rfl, _⟩ := h; rfl) | (obtain ⟨_, _, _, _, _, _, _, rfl, _⟩ := h; rfl) | (obtain ⟨_, _, _, _, _, _, _, _, rfl, _⟩ := h; rfl) | (obtain ⟨_, _, _, _, _, _, _, _, _, rfl, _⟩ := h; rfl) | (obtain ⟨_, _, _, _, _, _, _, _, _, _, rfl, _⟩ := h; rfl) | (obtain ⟨_, _, _, _, _, _, _, _, _, _, _, rfl, _⟩ := h; rfl) | (obtain ⟨_, _, _, _, _, _, _, _, _, _, _, _, rfl, _⟩ := h; rfl) | (obtain ⟨_, _, _, _, _, _, _, _, _, _, _, _, _, rfl, _⟩ := h; rfl) | (obtain ⟨_, _, _, _, _, _, _, _, _, _, _, _, _, _, rfl, _⟩ := h; rfl) | (obtain ⟨_, _, _, _, _, _, _, _, _, _, _, _, _, _, _, rfl, _⟩ := h; rfl) | (obtain ⟨_, _, _, _, _, _, _, _, _, _, _, _, _, _, _, _, rfl, _⟩ := h; rfl) | (obtain ⟨_, _, _, _, _, _, _, _, _, _, _, _, _, _, _, _, _, rfl, _⟩ := h; rfl) | (obtain ⟨_, _, _, _, _, _, _, _, _, _, _, _, _, _, _, _, _, _, rfl, _⟩ := h; rfl) | (obtain ⟨_, _, _, _, _, _, _, _, _, _, _, _, _, _, _, _, _, _, _, rfl, _⟩ := h; rfl) | (obtain ⟨_, _, _, _, _, _, _, _, _, _, _, _, _, _, _, _, _, _, _, _, rfl, _⟩ := h; rfl) | (obtain ⟨_, _, _, _, _, _, _, _, _, _, _, _, _, _, _, _, _, _, _, _, _, rfl, _⟩ := h; rfl) | (obtain ⟨_, _, _, _, _, _, _, _, _, _, _, _, _, _, _, _, _, _, _, _, _, _, rfl, _⟩ := h; rfl) | (obtain ⟨_, _, _, _, _, _, _, _, _, _, _, _, _, _, _, _, _, _, _, _, _, _, _, rfl, _⟩ := h; rfl) | (obtain ⟨_, _, _, _, _, _, _, _, _, _, _, _, _, _, _, _, _, _, _, _, _, _, _, _, rfl, _⟩ := h; rfl) | (obtain ⟨_, _, _, _, _, _, _, _, _, _, _, _, _, _, _, _, _, _, _, _, _, _, _, _, _, rfl, _⟩ := h; rfl)) fun cdv A outer s H E hr tk => ⟨_, t__law_form M (F__law_take M D) (by decide) (F__law_leaf M D) (by decide) (F__law_pick M D) (by decide) hr tk, fun v0 o ts K0 Z0 h => pl__law_form06  v0 o ts K0 Z0 h⟩
theorem F__law_deep_form (M : Md P w K mg base) (D : Ds K mg) : Fn1 P w K mg base 3 "_law_deep_form" ["store", "leaf", "depth"] (spI K (g__law_deep_form07).pf) :=
  fn_IT (k := 2) D.d__law_deep_form sc__law_deep_form (fun o ts K0 Z0 h => by first | (obtain ⟨rfl, _⟩ := h; rfl) | (obtain ⟨_, rfl, _⟩ := h; rfl) | (obtain ⟨_, _, rfl, _⟩ := h; rfl) | (obtain ⟨_, _, _, rfl, _⟩ := h; rfl) | (obtain ⟨_, _, _, _, rfl, _⟩ := h; rfl) | (obtain ⟨_, _, _, _, _, rfl, _⟩ := h; rfl) | (obtain ⟨_, _, _, _, _, _, rfl, _⟩ := h; rfl) | (obtain ⟨_, _, _, _, _, _, _, rfl, _⟩ := h; rfl) | (obtain ⟨_, _, _, _, _, _, _, _, rfl, _⟩ := h; rfl) | (obtain ⟨_, _, _, _, _, _, _, _, _, rfl, _⟩ := h; rfl) | (obtain ⟨_, _, _, _, _, _, _, _, _, _, rfl, _⟩ := h; rfl) | (obtain ⟨_, _, _, _, _, _, _, _, _, _, _, rfl, _⟩ := h; rfl) | (obtain ⟨_, _, _, _, _, _, _, _, _, _, _, _, rfl, _⟩ := h; rfl) | (obtain ⟨_, _, _, _, _, _, _, _, _, _, _, _, _, rfl, _⟩ := h; rfl) | (obtain ⟨_, _, _, _, _, _, _, _, _, _, _, _, _, _, rfl, _⟩ := h; rfl) | (obtain ⟨_, _, _, _, _, _, _, _, _, _, _, _, _, _, _, rfl, _⟩ := h; rfl) | (obtain ⟨_, _, _, _, _, _, _, _, _, _, _, _, _, _, _, _, rfl, _⟩ := h; rfl) | (obtain ⟨_, _, _, _, _, _, _, _, _, _, _, _, _, _, _, _, _, rfl, _⟩ := h; rfl) | (obtain ⟨_, _, _, _, _, _, _, _, _, _, _, _, _, _, _, _, _, _, rfl, _⟩ := h; rfl) | (obtain ⟨_, _, _, _, _, _, _, _, _, _, _, _, _, _, _, _, _, _, _, rfl, _⟩ := h; rfl) | (obtain ⟨_, _, _, _, _, _, _, _, _, _, _, _, _, _, _, _, _, _, _, _, rfl, _⟩ := h; rfl) | (obtain ⟨_, _, _, _, _, _, _, _, _, _, _, _, _, _, _, _, _, _, _, _, _, rfl, _⟩ := h; rfl) | (obtain ⟨_, _, _, _, _, _, _, _, _, _, _, _, _, _, _, _, _, _, _, _, _, _, rfl, _⟩ := h; rfl) | (obtain ⟨_, _, _, _, _, _, _, _, _, _, _, _, _, _, _, _, _, _, _, _, _, _, _, rfl, _⟩ := h; rfl) | (obtain ⟨_, _, _, _, _, _, _, _, _, _, _, _, _, _, _, _, _, _, _, _, _, _, _, _, rfl, _⟩ := h; rfl) | (obtain ⟨_, _, _, _, _, _, _, _, _, _, _, _, _, _, _, _, _, _, _, _, _, _, _, _, _, rfl, _⟩ := h; rfl)) fun cdv A outer s H E hr tk => ⟨_, t__law_deep_form M (F__law_take M D) (by decide) hr tk, fun v0 o ts K0 Z0 h => pl__law_deep_form07  v0 o ts K0 Z0 h⟩
theorem F__law_wide_form (M : Md P w K mg base) (D : Ds K mg) : Fn1 P w K mg base 4 "_law_wide_form" ["store", "leaf", "nodes"] (spI K (g__law_wide_form07).pf) :=
  fn_IT (k := 3) D.d__law_wide_form sc__law_wide_form (fun o ts K0 Z0 h => by first | (obtain ⟨rfl, _⟩ := h; rfl) | (obtain ⟨_, rfl, _⟩ := h; rfl) | (obtain ⟨_, _, rfl, _⟩ := h; rfl) | (obtain ⟨_, _, _, rfl, _⟩ := h; rfl) | (obtain ⟨_, _, _, _, rfl, _⟩ := h; rfl) | (obtain ⟨_, _, _, _, _, rfl, _⟩ := h; rfl) | (obtain ⟨_, _, _, _, _, _, rfl, _⟩ := h; rfl) | (obtain ⟨_, _, _, _, _, _, _, rfl, _⟩ := h; rfl) | (obtain ⟨_, _, _, _, _, _, _, _, rfl, _⟩ := h; rfl) | (obtain ⟨_, _, _, _, _, _, _, _, _, rfl, _⟩ := h; rfl) | (obtain ⟨_, _, _, _, _, _, _, _, _, _, rfl, _⟩ := h; rfl) | (obtain ⟨_, _, _, _, _, _, _, _, _, _, _, rfl, _⟩ := h; rfl) | (obtain ⟨_, _, _, _, _, _, _, _, _, _, _, _, rfl, _⟩ := h; rfl) | (obtain ⟨_, _, _, _, _, _, _, _, _, _, _, _, _, rfl, _⟩ := h; rfl) | (obtain ⟨_, _, _, _, _, _, _, _, _, _, _, _, _, _, rfl, _⟩ := h; rfl) | (obtain ⟨_, _, _, _, _, _, _, _, _, _, _, _, _, _, _, rfl, _⟩ := h; rfl) | (obtain ⟨_, _, _, _, _, _, _, _, _, _, _, _, _, _, _, _, rfl, _⟩ := h; rfl) | (obtain ⟨_, _, _, _, _, _, _, _, _, _, _, _, _, _, _, _, _, rfl, _⟩ := h; rfl) | (obtain ⟨_, _, _, _, _, _, _, _, _, _, _, _, _, _, _, _, _, _, rfl, _⟩ := h; rfl) | (obtain ⟨_, _, _, _, _, _, _, _, _, _, _, _, _, _, _, _, _, _, _, rfl, _⟩ := h; rfl) | (obtain ⟨_, _, _, _, _, _, _, _, _, _, _, _, _, _, _, _, _, _, _, _, rfl, _⟩ := h; rfl) | (obtain ⟨_, _, _, _, _, _, _, _, _, _, _, _, _, _, _, _, _, _, _, _, _, rfl, _⟩ := h; rfl) | (obtain ⟨_, _, _, _, _, _, _, _, _, _, _, _, _, _, _, _, _, _, _, _, _, _, rfl, _⟩ := h; rfl) | (obtain ⟨_, _, _, _, _, _, _, _, _, _, _, _, _, _, _, _, _, _, _, _, _, _, _, rfl, _⟩ := h; rfl) | (obtain ⟨_, _, _, _, _, _, _, _, _, _, _, _, _, _, _, _, _, _, _, _, _, _, _, _, rfl, _⟩ := h; rfl) | (obtain ⟨_, _, _, _, _, _, _, _, _, _, _, _, _, _, _, _, _, _, _, _, _, _, _, _, _, rfl, _⟩ := h; rfl)) fun cdv A outer s H E hr tk => ⟨_, t__law_wide_form M (F__law_pick M D) (by decide) hr tk, fun v0 o ts K0 Z0 h => pl__law_wide_form07  v0 o ts K0 Z0 h⟩
theorem F__law_kids (M : Md P w K mg base) (D : Ds K mg) : Fn1 P w K mg base 1 "_law_kids" ["form"] (spP K (g__law_kids).pf) :=
  fn_PT (k := 0) D.d__law_kids sc__law_kids (fun ts K0 Z0 h => by first | (obtain ⟨rfl, _⟩ := h; rfl) | (obtain ⟨_, rfl, _⟩ := h; rfl) | (obtain ⟨_, _, rfl, _⟩ := h; rfl) | (obtain ⟨_, _, _, rfl, _⟩ := h; rfl) | (obtain ⟨_, _, _, _, rfl, _⟩ := h; rfl) | (obtain ⟨_, _, _, _, _, rfl, _⟩ := h; rfl) | (obtain ⟨_, _, _, _, _, _, rfl, _⟩ := h; rfl) | (obtain ⟨_, _, _, _, _, _, _, rfl, _⟩ := h; rfl) | (obtain ⟨_, _, _, _, _, _, _, _, rfl, _⟩ := h; rfl) | (obtain ⟨_, _, _, _, _, _, _, _, _, rfl, _⟩ := h; rfl) | (obtain ⟨_, _, _, _, _, _, _, _, _, _, rfl, _⟩ := h; rfl) | (obtain ⟨_, _, _, _, _, _, _, _, _, _, _, rfl, _⟩ := h; rfl) | (obtain ⟨_, _, _, _, _, _, _, _, _, _, _, _, rfl, _⟩ := h; rfl) | (obtain ⟨_, _, _, _, _, _, _, _, _, _, _, _, _, rfl, _⟩ := h; rfl) | (obtain ⟨_, _, _, _, _, _, _, _, _, _, _, _, _, _, rfl, _⟩ := h; rfl) | (obtain ⟨_, _, _, _, _, _, _, _, _, _, _, _, _, _, _, rfl, _⟩ := h; rfl) | (obtain ⟨_, _, _, _, _, _, _, _, _, _, _, _, _, _, _, _, rfl, _⟩ := h; rfl) | (obtain ⟨_, _, _, _, _, _, _, _, _, _, _, _, _, _, _, _, _, rfl, _⟩ := h; rfl) | (obtain ⟨_, _, _, _, _, _, _, _, _, _, _, _, _, _, _, _, _, _, rfl, _⟩ := h; rfl) | (obtain ⟨_, _, _, _, _, _, _, _, _, _, _, _, _, _, _, _, _, _, _, rfl, _⟩ := h; rfl) | (obtain ⟨_, _, _, _, _, _, _, _, _, _, _, _, _, _, _, _, _, _, _, _, rfl, _⟩ := h; rfl) | (obtain ⟨_, _, _, _, _, _, _, _, _, _, _, _, _, _, _, _, _, _, _, _, _, rfl, _⟩ := h; rfl) | (obtain ⟨_, _, _, _, _, _, _, _, _, _, _, _, _, _, _, _, _, _, _, _, _, _, rfl, _⟩ := h; rfl) | (obtain ⟨_, _, _, _, _, _, _, _, _, _, _, _, _, _, _, _, _, _, _, _, _, _, _, rfl, _⟩ := h; rfl) | (obtain ⟨_, _, _, _, _, _, _, _, _, _, _, _, _, _, _, _, _, _, _, _, _, _, _, _, rfl, _⟩ := h; rfl) | (obtain ⟨_, _, _, _, _, _, _, _, _, _, _, _, _, _, _, _, _, _, _, _, _, _, _, _, _, rfl, _⟩ := h; rfl)) fun cdv A outer s H E hr tk => ⟨_, t__law_kids M  hr tk, fun ts K0 Z0 h => pl__law_kids  ts K0 Z0 h⟩
theorem F__law_preorder (M : Md P w K mg base) (D : Ds K mg) : Fn1 P w K mg base 2 "_law_preorder" ["form"] (spP K (g__law_preorder).pf) :=
  fn_PT (k := 1) D.d__law_preorder sc__law_preorder (fun ts K0 Z0 h => by first | (obtain ⟨rfl, _⟩ := h; rfl) | (obtain ⟨_, rfl, _⟩ := h; rfl) | (obtain ⟨_, _, rfl, _⟩ := h; rfl) | (obtain ⟨_, _, _, rfl, _⟩ := h; rfl) | (obtain ⟨_, _, _, _, rfl, _⟩ := h; rfl) | (obtain ⟨_, _, _, _, _, rfl, _⟩ := h; rfl) | (obtain ⟨_, _, _, _, _, _, rfl, _⟩ := h; rfl) | (obtain ⟨_, _, _, _, _, _, _, rfl, _⟩ := h; rfl) | (obtain ⟨_, _, _, _, _, _, _, _, rfl, _⟩ := h; rfl) | (obtain ⟨_, _, _, _, _, _, _, _, _, rfl, _⟩ := h; rfl) | (obtain ⟨_, _, _, _, _, _, _, _, _, _, rfl, _⟩ := h; rfl) | (obtain ⟨_, _, _, _, _, _, _, _, _, _, _, rfl, _⟩ := h; rfl) | (obtain ⟨_, _, _, _, _, _, _, _, _, _, _, _, rfl, _⟩ := h; rfl) | (obtain ⟨_, _, _, _, _, _, _, _, _, _, _, _, _, rfl, _⟩ := h; rfl) | (obtain ⟨_, _, _, _, _, _, _, _, _, _, _, _, _, _, rfl, _⟩ := h; rfl) | (obtain ⟨_, _, _, _, _, _, _, _, _, _, _, _, _, _, _, rfl, _⟩ := h; rfl) | (obtain ⟨_, _, _, _, _, _, _, _, _, _, _, _, _, _, _, _, rfl, _⟩ := h; rfl) | (obtain ⟨_, _, _, _, _, _, _, _, _, _, _, _, _, _, _, _, _, rfl, _⟩ := h; rfl) | (obtain ⟨_, _, _, _, _, _, _, _, _, _, _, _, _, _, _, _, _, _, rfl, _⟩ := h; rfl) | (obtain ⟨_, _, _, _, _, _, _, _, _, _, _, _, _, _, _, _, _, _, _, rfl, _⟩ := h; rfl) | (obtain ⟨_, _, _, _, _, _, _, _, _, _, _, _, _, _, _, _, _, _, _, _, rfl, _⟩ := h; rfl) | (obtain ⟨_, _, _, _, _, _, _, _, _, _, _, _, _, _, _, _, _, _, _, _, _, rfl, _⟩ := h; rfl) | (obtain ⟨_, _, _, _, _, _, _, _, _, _, _, _, _, _, _, _, _, _, _, _, _, _, rfl, _⟩ := h; rfl) | (obtain ⟨_, _, _, _, _, _, _, _, _, _, _, _, _, _, _, _, _, _, _, _, _, _, _, rfl, _⟩ := h; rfl) | (obtain ⟨_, _, _, _, _, _, _, _, _, _, _, _, _, _, _, _, _, _, _, _, _, _, _, _, rfl, _⟩ := h; rfl) | (obtain ⟨_, _, _, _, _, _, _, _, _, _, _, _, _, _, _, _, _, _, _, _, _, _, _, _, _, rfl, _⟩ := h; rfl)) fun cdv A outer s H E hr tk => ⟨_, t__law_preorder M (F__law_kids M D) (by decide) hr tk, fun ts K0 Z0 h => pl__law_preorder  ts K0 Z0 h⟩
theorem F__law_form_text (M : Md P w K mg base) (D : Ds K mg) : Fn1 P w K mg base 3 "_law_form_text" ["form"] (spP K (g__law_form_text).pf) :=
  fn_PT (k := 2) D.d__law_form_text sc__law_form_text (fun ts K0 Z0 h => by first | (obtain ⟨rfl, _⟩ := h; rfl) | (obtain ⟨_, rfl, _⟩ := h; rfl) | (obtain ⟨_, _, rfl, _⟩ := h; rfl) | (obtain ⟨_, _, _, rfl, _⟩ := h; rfl) | (obtain ⟨_, _, _, _, rfl, _⟩ := h; rfl) | (obtain ⟨_, _, _, _, _, rfl, _⟩ := h; rfl) | (obtain ⟨_, _, _, _, _, _, rfl, _⟩ := h; rfl) | (obtain ⟨_, _, _, _, _, _, _, rfl, _⟩ := h; rfl) | (obtain ⟨_, _, _, _, _, _, _, _, rfl, _⟩ := h; rfl) | (obtain ⟨_, _, _, _, _, _, _, _, _, rfl, _⟩ := h; rfl) | (obtain ⟨_, _, _, _, _, _, _, _, _, _, rfl, _⟩ := h; rfl) | (obtain ⟨_, _, _, _, _, _, _, _, _, _, _, rfl, _⟩ := h; rfl) | (obtain ⟨_, _, _, _, _, _, _, _, _, _, _, _, rfl, _⟩ := h; rfl) | (obtain ⟨_, _, _, _, _, _, _, _, _, _, _, _, _, rfl, _⟩ := h; rfl) | (obtain ⟨_, _, _, _, _, _, _, _, _, _, _, _, _, _, rfl, _⟩ := h; rfl) | (obtain ⟨_, _, _, _, _, _, _, _, _, _, _, _, _, _, _, rfl, _⟩ := h; rfl) | (obtain ⟨_, _, _, _, _, _, _, _, _, _, _, _, _, _, _, _, rfl, _⟩ := h; rfl) | (obtain ⟨_, _, _, _, _, _, _, _, _, _, _, _, _, _, _, _, _, rfl, _⟩ := h; rfl) | (obtain ⟨_, _, _, _, _, _, _, _, _, _, _, _, _, _, _, _, _, _, rfl, _⟩ := h; rfl) | (obtain ⟨_, _, _, _, _, _, _, _, _, _, _, _, _, _, _, _, _, _, _, rfl, _⟩ := h; rfl) | (obtain ⟨_, _, _, _, _, _, _, _, _, _, _, _, _, _, _, _, _, _, _, _, rfl, _⟩ := h; rfl) | (obtain ⟨_, _, _, _, _, _, _, _, _, _, _, _, _, _, _, _, _, _, _, _, _, rfl, _⟩ := h; rfl) | (obtain ⟨_, _, _, _, _, _, _, _, _, _, _, _, _, _, _, _, _, _, _, _, _, _, rfl, _⟩ := h; rfl) | (obtain ⟨_, _, _, _, _, _, _, _, _, _, _, _, _, _, _, _, _, _, _, _, _, _, _, rfl, _⟩ := h; rfl) | (obtain ⟨_, _, _, _, _, _, _, _, _, _, _, _, _, _, _, _, _, _, _, _, _, _, _, _, rfl, _⟩ := h; rfl) | (obtain ⟨_, _, _, _, _, _, _, _, _, _, _, _, _, _, _, _, _, _, _, _, _, _, _, _, _, rfl, _⟩ := h; rfl)) fun cdv A outer s H E hr tk => ⟨_, t__law_form_text M (F__law_preorder M D) (by decide) hr tk, fun ts K0 Z0 h => pl__law_form_text  ts K0 Z0 h⟩
theorem F__law_same (M : Md P w K mg base) (D : Ds K mg) : Fn1 P w K mg base 1 "_law_same" ["one", "two"] (spP K (g__law_same).pf) :=
  fn_PT (k := 0) D.d__law_same sc__law_same (fun ts K0 Z0 h => by first | (obtain ⟨rfl, _⟩ := h; rfl) | (obtain ⟨_, rfl, _⟩ := h; rfl) | (obtain ⟨_, _, rfl, _⟩ := h; rfl) | (obtain ⟨_, _, _, rfl, _⟩ := h; rfl) | (obtain ⟨_, _, _, _, rfl, _⟩ := h; rfl) | (obtain ⟨_, _, _, _, _, rfl, _⟩ := h; rfl) | (obtain ⟨_, _, _, _, _, _, rfl, _⟩ := h; rfl) | (obtain ⟨_, _, _, _, _, _, _, rfl, _⟩ := h; rfl) | (obtain ⟨_, _, _, _, _, _, _, _, rfl, _⟩ := h; rfl) | (obtain ⟨_, _, _, _, _, _, _, _, _, rfl, _⟩ := h; rfl) | (obtain ⟨_, _, _, _, _, _, _, _, _, _, rfl, _⟩ := h; rfl) | (obtain ⟨_, _, _, _, _, _, _, _, _, _, _, rfl, _⟩ := h; rfl) | (obtain ⟨_, _, _, _, _, _, _, _, _, _, _, _, rfl, _⟩ := h; rfl) | (obtain ⟨_, _, _, _, _, _, _, _, _, _, _, _, _, rfl, _⟩ := h; rfl) | (obtain ⟨_, _, _, _, _, _, _, _, _, _, _, _, _, _, rfl, _⟩ := h; rfl) | (obtain ⟨_, _, _, _, _, _, _, _, _, _, _, _, _, _, _, rfl, _⟩ := h; rfl) | (obtain ⟨_, _, _, _, _, _, _, _, _, _, _, _, _, _, _, _, rfl, _⟩ := h; rfl) | (obtain ⟨_, _, _, _, _, _, _, _, _, _, _, _, _, _, _, _, _, rfl, _⟩ := h; rfl) | (obtain ⟨_, _, _, _, _, _, _, _, _, _, _, _, _, _, _, _, _, _, rfl, _⟩ := h; rfl) | (obtain ⟨_, _, _, _, _, _, _, _, _, _, _, _, _, _, _, _, _, _, _, rfl, _⟩ := h; rfl) | (obtain ⟨_, _, _, _, _, _, _, _, _, _, _, _, _, _, _, _, _, _, _, _, rfl, _⟩ := h; rfl) | (obtain ⟨_, _, _, _, _, _, _, _, _, _, _, _, _, _, _, _, _, _, _, _, _, rfl, _⟩ := h; rfl) | (obtain ⟨_, _, _, _, _, _, _, _, _, _, _, _, _, _, _, _, _, _, _, _, _, _, rfl, _⟩ := h; rfl) | (obtain ⟨_, _, _, _, _, _, _, _, _, _, _, _, _, _, _, _, _, _, _, _, _, _, _, rfl, _⟩ := h; rfl) | (obtain ⟨_, _, _, _, _, _, _, _, _, _, _, _, _, _, _, _, _, _, _, _, _, _, _, _, rfl, _⟩ := h; rfl) | (obtain ⟨_, _, _, _, _, _, _, _, _, _, _, _, _, _, _, _, _, _, _, _, _, _, _, _, _, rfl, _⟩ := h; rfl)) fun cdv A outer s H E hr tk => ⟨_, t__law_same M  hr tk, fun ts K0 Z0 h => pl__law_same  ts K0 Z0 h⟩
theorem F__law_common (M : Md P w K mg base) (D : Ds K mg) : Fn1 P w K mg base 1 "_law_common" ["text", "at", "word"] (spP K (g__law_common).pf) :=
  fn_PT (k := 0) D.d__law_common sc__law_common (fun ts K0 Z0 h => by first | (obtain ⟨rfl, _⟩ := h; rfl) | (obtain ⟨_, rfl, _⟩ := h; rfl) | (obtain ⟨_, _, rfl, _⟩ := h; rfl) | (obtain ⟨_, _, _, rfl, _⟩ := h; rfl) | (obtain ⟨_, _, _, _, rfl, _⟩ := h; rfl) | (obtain ⟨_, _, _, _, _, rfl, _⟩ := h; rfl) | (obtain ⟨_, _, _, _, _, _, rfl, _⟩ := h; rfl) | (obtain ⟨_, _, _, _, _, _, _, rfl, _⟩ := h; rfl) | (obtain ⟨_, _, _, _, _, _, _, _, rfl, _⟩ := h; rfl) | (obtain ⟨_, _, _, _, _, _, _, _, _, rfl, _⟩ := h; rfl) | (obtain ⟨_, _, _, _, _, _, _, _, _, _, rfl, _⟩ := h; rfl) | (obtain ⟨_, _, _, _, _, _, _, _, _, _, _, rfl, _⟩ := h; rfl) | (obtain ⟨_, _, _, _, _, _, _, _, _, _, _, _, rfl, _⟩ := h; rfl) | (obtain ⟨_, _, _, _, _, _, _, _, _, _, _, _, _, rfl, _⟩ := h; rfl) | (obtain ⟨_, _, _, _, _, _, _, _, _, _, _, _, _, _, rfl, _⟩ := h; rfl) | (obtain ⟨_, _, _, _, _, _, _, _, _, _, _, _, _, _, _, rfl, _⟩ := h; rfl) | (obtain ⟨_, _, _, _, _, _, _, _, _, _, _, _, _, _, _, _, rfl, _⟩ := h; rfl) | (obtain ⟨_, _, _, _, _, _, _, _, _, _, _, _, _, _, _, _, _, rfl, _⟩ := h; rfl) | (obtain ⟨_, _, _, _, _, _, _, _, _, _, _, _, _, _, _, _, _, _, rfl, _⟩ := h; rfl) | (obtain ⟨_, _, _, _, _, _, _, _, _, _, _, _, _, _, _, _, _, _, _, rfl, _⟩ := h; rfl) | (obtain ⟨_, _, _, _, _, _, _, _, _, _, _, _, _, _, _, _, _, _, _, _, rfl, _⟩ := h; rfl) | (obtain ⟨_, _, _, _, _, _, _, _, _, _, _, _, _, _, _, _, _, _, _, _, _, rfl, _⟩ := h; rfl) | (obtain ⟨_, _, _, _, _, _, _, _, _, _, _, _, _, _, _, _, _, _, _, _, _, _, rfl, _⟩ := h; rfl) | (obtain ⟨_, _, _, _, _, _, _, _, _, _, _, _, _, _, _, _, _, _, _, _, _, _, _, rfl, _⟩ := h; rfl) | (obtain ⟨_, _, _, _, _, _, _, _, _, _, _, _, _, _, _, _, _, _, _, _, _, _, _, _, rfl, _⟩ := h; rfl) | (obtain ⟨_, _, _, _, _, _, _, _, _, _, _, _, _, _, _, _, _, _, _, _, _, _, _, _, _, rfl, _⟩ := h; rfl)) fun cdv A outer s H E hr tk => ⟨_, t__law_common M  hr tk, fun ts K0 Z0 h => pl__law_common  ts K0 Z0 h⟩
theorem F__law_leaf_end (M : Md P w K mg base) (D : Ds K mg) : Fn1 P w K mg base 1 "_law_leaf_end" ["text", "at"] (spP K (g__law_leaf_end).pf) :=
  fn_PT (k := 0) D.d__law_leaf_end sc__law_leaf_end (fun ts K0 Z0 h => by first | (obtain ⟨rfl, _⟩ := h; rfl) | (obtain ⟨_, rfl, _⟩ := h; rfl) | (obtain ⟨_, _, rfl, _⟩ := h; rfl) | (obtain ⟨_, _, _, rfl, _⟩ := h; rfl) | (obtain ⟨_, _, _, _, rfl, _⟩ := h; rfl) | (obtain ⟨_, _, _, _, _, rfl, _⟩ := h; rfl) | (obtain ⟨_, _, _, _, _, _, rfl, _⟩ := h; rfl) | (obtain ⟨_, _, _, _, _, _, _, rfl, _⟩ := h; rfl) | (obtain ⟨_, _, _, _, _, _, _, _, rfl, _⟩ := h; rfl) | (obtain ⟨_, _, _, _, _, _, _, _, _, rfl, _⟩ := h; rfl) | (obtain ⟨_, _, _, _, _, _, _, _, _, _, rfl, _⟩ := h; rfl) | (obtain ⟨_, _, _, _, _, _, _, _, _, _, _, rfl, _⟩ := h; rfl) | (obtain ⟨_, _, _, _, _, _, _, _, _, _, _, _, rfl, _⟩ := h; rfl) | (obtain ⟨_, _, _, _, _, _, _, _, _, _, _, _, _, rfl, _⟩ := h; rfl) | (obtain ⟨_, _, _, _, _, _, _, _, _, _, _, _, _, _, rfl, _⟩ := h; rfl) | (obtain ⟨_, _, _, _, _, _, _, _, _, _, _, _, _, _, _, rfl, _⟩ := h; rfl) | (obtain ⟨_, _, _, _, _, _, _, _, _, _, _, _, _, _, _, _, rfl, _⟩ := h; rfl) | (obtain ⟨_, _, _, _, _, _, _, _, _, _, _, _, _, _, _, _, _, rfl, _⟩ := h; rfl) | (obtain ⟨_, _, _, _, _, _, _, _, _, _, _, _, _, _, _, _, _, _, rfl, _⟩ := h; rfl) | (obtain ⟨_, _, _, _, _, _, _, _, _, _, _, _, _, _, _, _, _, _, _, rfl, _⟩ := h; rfl) | (obtain ⟨_, _, _, _, _, _, _, _, _, _, _, _, _, _, _, _, _, _, _, _, rfl, _⟩ := h; rfl) | (obtain ⟨_, _, _, _, _, _, _, _, _, _, _, _, _, _, _, _, _, _, _, _, _, rfl, _⟩ := h; rfl) | (obtain ⟨_, _, _, _, _, _, _, _, _, _, _, _, _, _, _, _, _, _, _, _, _, _, rfl, _⟩ := h; rfl) | (obtain ⟨_, _, _, _, _, _, _, _, _, _, _, _, _, _, _, _, _, _, _, _, _, _, _, rfl, _⟩ := h; rfl) | (obtain ⟨_, _, _, _, _, _, _, _, _, _, _, _, _, _, _, _, _, _, _, _, _, _, _, _, rfl, _⟩ := h; rfl) | (obtain ⟨_, _, _, _, _, _, _, _, _, _, _, _, _, _, _, _, _, _, _, _, _, _, _, _, _, rfl, _⟩ := h; rfl)) fun cdv A outer s H E hr tk => ⟨_, t__law_leaf_end M  hr tk, fun ts K0 Z0 h => pl__law_leaf_end  ts K0 Z0 h⟩
theorem F__law_scan (M : Md P w K mg base) (D : Ds K mg) : Fn1 P w K mg base 2 "_law_scan" ["text", "rows"] (spP K (g__law_scan).pf) :=
  fn_PT (k := 1) D.d__law_scan sc__law_scan (fun ts K0 Z0 h => by first | (obtain ⟨rfl, _⟩ := h; rfl) | (obtain ⟨_, rfl, _⟩ := h; rfl) | (obtain ⟨_, _, rfl, _⟩ := h; rfl) | (obtain ⟨_, _, _, rfl, _⟩ := h; rfl) | (obtain ⟨_, _, _, _, rfl, _⟩ := h; rfl) | (obtain ⟨_, _, _, _, _, rfl, _⟩ := h; rfl) | (obtain ⟨_, _, _, _, _, _, rfl, _⟩ := h; rfl) | (obtain ⟨_, _, _, _, _, _, _, rfl, _⟩ := h; rfl) | (obtain ⟨_, _, _, _, _, _, _, _, rfl, _⟩ := h; rfl) | (obtain ⟨_, _, _, _, _, _, _, _, _, rfl, _⟩ := h; rfl) | (obtain ⟨_, _, _, _, _, _, _, _, _, _, rfl, _⟩ := h; rfl) | (obtain ⟨_, _, _, _, _, _, _, _, _, _, _, rfl, _⟩ := h; rfl) | (obtain ⟨_, _, _, _, _, _, _, _, _, _, _, _, rfl, _⟩ := h; rfl) | (obtain ⟨_, _, _, _, _, _, _, _, _, _, _, _, _, rfl, _⟩ := h; rfl) | (obtain ⟨_, _, _, _, _, _, _, _, _, _, _, _, _, _, rfl, _⟩ := h; rfl) | (obtain ⟨_, _, _, _, _, _, _, _, _, _, _, _, _, _, _, rfl, _⟩ := h; rfl) | (obtain ⟨_, _, _, _, _, _, _, _, _, _, _, _, _, _, _, _, rfl, _⟩ := h; rfl) | (obtain ⟨_, _, _, _, _, _, _, _, _, _, _, _, _, _, _, _, _, rfl, _⟩ := h; rfl) | (obtain ⟨_, _, _, _, _, _, _, _, _, _, _, _, _, _, _, _, _, _, rfl, _⟩ := h; rfl) | (obtain ⟨_, _, _, _, _, _, _, _, _, _, _, _, _, _, _, _, _, _, _, rfl, _⟩ := h; rfl) | (obtain ⟨_, _, _, _, _, _, _, _, _, _, _, _, _, _, _, _, _, _, _, _, rfl, _⟩ := h; rfl) | (obtain ⟨_, _, _, _, _, _, _, _, _, _, _, _, _, _, _, _, _, _, _, _, _, rfl, _⟩ := h; rfl) | (obtain ⟨_, _, _, _, _, _, _, _, _, _, _, _, _, _, _, _, _, _, _, _, _, _, rfl, _⟩ := h; rfl) | (obtain ⟨_, _, _, _, _, _, _, _, _, _, _, _, _, _, _, _, _, _, _, _, _, _, _, rfl, _⟩ := h; rfl) | (obtain ⟨_, _, _, _, _, _, _, _, _, _, _, _, _, _, _, _, _, _, _, _, _, _, _, _, rfl, _⟩ := h; rfl) | (obtain ⟨_, _, _, _, _, _, _, _, _, _, _, _, _, _, _, _, _, _, _, _, _, _, _, _, _, rfl, _⟩ := h; rfl)) fun cdv A outer s H E hr tk => ⟨_, t__law_scan M (F__law_leaf_end M D) (by decide) (F__law_common M D) (by decide) hr tk, fun ts K0 Z0 h => pl__law_scan  ts K0 Z0 h⟩
theorem F__law_is_form (M : Md P w K mg base) (D : Ds K mg) : Fn1 P w K mg base 1 "_law_is_form" ["value"] (spP K (g__law_is_form).pf) :=
  fn_PT (k := 0) D.d__law_is_form sc__law_is_form (fun ts K0 Z0 h => by first | (obtain ⟨rfl, _⟩ := h; rfl) | (obtain ⟨_, rfl, _⟩ := h; rfl) | (obtain ⟨_, _, rfl, _⟩ := h; rfl) | (obtain ⟨_, _, _, rfl, _⟩ := h; rfl) | (obtain ⟨_, _, _, _, rfl, _⟩ := h; rfl) | (obtain ⟨_, _, _, _, _, rfl, _⟩ := h; rfl) | (obtain ⟨_, _, _, _, _, _, rfl, _⟩ := h; rfl) | (obtain ⟨_, _, _, _, _, _, _, rfl, _⟩ := h; rfl) | (obtain ⟨_, _, _, _, _, _, _, _, rfl, _⟩ := h; rfl) | (obtain ⟨_, _, _, _, _, _, _, _, _, rfl, _⟩ := h; rfl) | (obtain ⟨_, _, _, _, _, _, _, _, _, _, rfl, _⟩ := h; rfl) | (obtain ⟨_, _, _, _, _, _, _, _, _, _, _, rfl, _⟩ := h; rfl) | (obtain ⟨_, _, _, _, _, _, _, _, _, _, _, _, rfl, _⟩ := h; rfl) | (obtain ⟨_, _, _, _, _, _, _, _, _, _, _, _, _, rfl, _⟩ := h; rfl) | (obtain ⟨_, _, _, _, _, _, _, _, _, _, _, _, _, _, rfl, _⟩ := h; rfl) | (obtain ⟨_, _, _, _, _, _, _, _, _, _, _, _, _, _, _, rfl, _⟩ := h; rfl) | (obtain ⟨_, _, _, _, _, _, _, _, _, _, _, _, _, _, _, _, rfl, _⟩ := h; rfl) | (obtain ⟨_, _, _, _, _, _, _, _, _, _, _, _, _, _, _, _, _, rfl, _⟩ := h; rfl) | (obtain ⟨_, _, _, _, _, _, _, _, _, _, _, _, _, _, _, _, _, _, rfl, _⟩ := h; rfl) | (obtain ⟨_, _, _, _, _, _, _, _, _, _, _, _, _, _, _, _, _, _, _, rfl, _⟩ := h; rfl) | (obtain ⟨_, _, _, _, _, _, _, _, _, _, _, _, _, _, _, _, _, _, _, _, rfl, _⟩ := h; rfl) | (obtain ⟨_, _, _, _, _, _, _, _, _, _, _, _, _, _, _, _, _, _, _, _, _, rfl, _⟩ := h; rfl) | (obtain ⟨_, _, _, _, _, _, _, _, _, _, _, _, _, _, _, _, _, _, _, _, _, _, rfl, _⟩ := h; rfl) | (obtain ⟨_, _, _, _, _, _, _, _, _, _, _, _, _, _, _, _, _, _, _, _, _, _, _, rfl, _⟩ := h; rfl) | (obtain ⟨_, _, _, _, _, _, _, _, _, _, _, _, _, _, _, _, _, _, _, _, _, _, _, _, rfl, _⟩ := h; rfl) | (obtain ⟨_, _, _, _, _, _, _, _, _, _, _, _, _, _, _, _, _, _, _, _, _, _, _, _, _, rfl, _⟩ := h; rfl)) fun cdv A outer s H E hr tk => ⟨_, t__law_is_form M  hr tk, fun ts K0 Z0 h => pl__law_is_form  ts K0 Z0 h⟩
theorem F__law_due (M : Md P w K mg base) (D : Ds K mg) : Fn1 P w K mg base 3 "_law_due" ["text", "rows"] (spP K (g__law_due07).pf) :=
  fn_PT (k := 2) D.d__law_due sc__law_due (fun ts K0 Z0 h => by first | (obtain ⟨rfl, _⟩ := h; rfl) | (obtain ⟨_, rfl, _⟩ := h; rfl) | (obtain ⟨_, _, rfl, _⟩ := h; rfl) | (obtain ⟨_, _, _, rfl, _⟩ := h; rfl) | (obtain ⟨_, _, _, _, rfl, _⟩ := h; rfl) | (obtain ⟨_, _, _, _, _, rfl, _⟩ := h; rfl) | (obtain ⟨_, _, _, _, _, _, rfl, _⟩ := h; rfl) | (obtain ⟨_, _, _, _, _, _, _, rfl, _⟩ := h; rfl) | (obtain ⟨_, _, _, _, _, _, _, _, rfl, _⟩ := h; rfl) | (obtain ⟨_, _, _, _, _, _, _, _, _, rfl, _⟩ := h; rfl) | (obtain ⟨_, _, _, _, _, _, _, _, _, _, rfl, _⟩ := h; rfl) | (obtain ⟨_, _, _, _, _, _, _, _, _, _, _, rfl, _⟩ := h; rfl) | (obtain ⟨_, _, _, _, _, _, _, _, _, _, _, _, rfl, _⟩ := h; rfl) | (obtain ⟨_, _, _, _, _, _, _, _, _, _, _, _, _, rfl, _⟩ := h; rfl) | (obtain ⟨_, _, _, _, _, _, _, _, _, _, _, _, _, _, rfl, _⟩ := h; rfl) | (obtain ⟨_, _, _, _, _, _, _, _, _, _, _, _, _, _, _, rfl, _⟩ := h; rfl) | (obtain ⟨_, _, _, _, _, _, _, _, _, _, _, _, _, _, _, _, rfl, _⟩ := h; rfl) | (obtain ⟨_, _, _, _, _, _, _, _, _, _, _, _, _, _, _, _, _, rfl, _⟩ := h; rfl) | (obtain ⟨_, _, _, _, _, _, _, _, _, _, _, _, _, _, _, _, _, _, rfl, _⟩ := h; rfl) | (obtain ⟨_, _, _, _, _, _, _, _, _, _, _, _, _, _, _, _, _, _, _, rfl, _⟩ := h; rfl) | (obtain ⟨_, _, _, _, _, _, _, _, _, _, _, _, _, _, _, _, _, _, _, _, rfl, _⟩ := h; rfl) | (obtain ⟨_, _, _, _, _, _, _, _, _, _, _, _, _, _, _, _, _, _, _, _, _, rfl, _⟩ := h; rfl) | (obtain ⟨_, _, _, _, _, _, _, _, _, _, _, _, _, _, _, _, _, _, _, _, _, _, rfl, _⟩ := h; rfl) | (obtain ⟨_, _, _, _, _, _, _, _, _, _, _, _, _, _, _, _, _, _, _, _, _, _, _, rfl, _⟩ := h; rfl) | (obtain ⟨_, _, _, _, _, _, _, _, _, _, _, _, _, _, _, _, _, _, _, _, _, _, _, _, rfl, _⟩ := h; rfl) | (obtain ⟨_, _, _, _, _, _, _, _, _, _, _, _, _, _, _, _, _, _, _, _, _, _, _, _, _, rfl, _⟩ := h; rfl)) fun cdv A outer s H E hr tk => ⟨_, t__law_due M (F__law_scan M D) (by decide) hr tk, fun ts K0 Z0 h => pl__law_due07  ts K0 Z0 h⟩
theorem F__law_told (M : Md P w K mg base) (D : Ds K mg) : Fn1 P w K mg base 7 "_law_told" ["text", "rows"] (spP K (g__law_told07).pf) :=
  fn_PT (k := 6) D.d__law_told sc__law_told (fun ts K0 Z0 h => by first | (obtain ⟨rfl, _⟩ := h; rfl) | (obtain ⟨_, rfl, _⟩ := h; rfl) | (obtain ⟨_, _, rfl, _⟩ := h; rfl) | (obtain ⟨_, _, _, rfl, _⟩ := h; rfl) | (obtain ⟨_, _, _, _, rfl, _⟩ := h; rfl) | (obtain ⟨_, _, _, _, _, rfl, _⟩ := h; rfl) | (obtain ⟨_, _, _, _, _, _, rfl, _⟩ := h; rfl) | (obtain ⟨_, _, _, _, _, _, _, rfl, _⟩ := h; rfl) | (obtain ⟨_, _, _, _, _, _, _, _, rfl, _⟩ := h; rfl) | (obtain ⟨_, _, _, _, _, _, _, _, _, rfl, _⟩ := h; rfl) | (obtain ⟨_, _, _, _, _, _, _, _, _, _, rfl, _⟩ := h; rfl) | (obtain ⟨_, _, _, _, _, _, _, _, _, _, _, rfl, _⟩ := h; rfl) | (obtain ⟨_, _, _, _, _, _, _, _, _, _, _, _, rfl, _⟩ := h; rfl) | (obtain ⟨_, _, _, _, _, _, _, _, _, _, _, _, _, rfl, _⟩ := h; rfl) | (obtain ⟨_, _, _, _, _, _, _, _, _, _, _, _, _, _, rfl, _⟩ := h; rfl) | (obtain ⟨_, _, _, _, _, _, _, _, _, _, _, _, _, _, _, rfl, _⟩ := h; rfl) | (obtain ⟨_, _, _, _, _, _, _, _, _, _, _, _, _, _, _, _, rfl, _⟩ := h; rfl) | (obtain ⟨_, _, _, _, _, _, _, _, _, _, _, _, _, _, _, _, _, rfl, _⟩ := h; rfl) | (obtain ⟨_, _, _, _, _, _, _, _, _, _, _, _, _, _, _, _, _, _, rfl, _⟩ := h; rfl) | (obtain ⟨_, _, _, _, _, _, _, _, _, _, _, _, _, _, _, _, _, _, _, rfl, _⟩ := h; rfl) | (obtain ⟨_, _, _, _, _, _, _, _, _, _, _, _, _, _, _, _, _, _, _, _, rfl, _⟩ := h; rfl) | (obtain ⟨_, _, _, _, _, _, _, _, _, _, _, _, _, _, _, _, _, _, _, _, _, rfl, _⟩ := h; rfl) | (obtain ⟨_, _, _, _, _, _, _, _, _, _, _, _, _, _, _, _, _, _, _, _, _, _, rfl, _⟩ := h; rfl) | (obtain ⟨_, _, _, _, _, _, _, _, _, _, _, _, _, _, _, _, _, _, _, _, _, _, _, rfl, _⟩ := h; rfl) | (obtain ⟨_, _, _, _, _, _, _, _, _, _, _, _, _, _, _, _, _, _, _, _, _, _, _, _, rfl, _⟩ := h; rfl) | (obtain ⟨_, _, _, _, _, _, _, _, _, _, _, _, _, _, _, _, _, _, _, _, _, _, _, _, _, rfl, _⟩ := h; rfl)) fun cdv A outer s H E hr tk => ⟨_, t__law_told M (F_read_form M D) (by decide) (F_read_row M D) (by decide) (F__law_is_form M D) (by decide) (F__law_form_text M D) (by decide) hr tk, fun ts K0 Z0 h => pl__law_told07 (He.ga K) (csK K clsN) (tstK K) (kitK K) (kitVK K) D.kx.e0 D.kx.e6 D.kx.e7 ts K0 Z0 h⟩
theorem F__law_spoilt (M : Md P w K mg base) (D : Ds K mg) : Fn1 P w K mg base 4 "_law_spoilt" ["store", "text"] (spI K (g__law_spoilt).pf) :=
  fn_IT (k := 3) D.d__law_spoilt sc__law_spoilt (fun o ts K0 Z0 h => by first | (obtain ⟨rfl, _⟩ := h; rfl) | (obtain ⟨_, rfl, _⟩ := h; rfl) | (obtain ⟨_, _, rfl, _⟩ := h; rfl) | (obtain ⟨_, _, _, rfl, _⟩ := h; rfl) | (obtain ⟨_, _, _, _, rfl, _⟩ := h; rfl) | (obtain ⟨_, _, _, _, _, rfl, _⟩ := h; rfl) | (obtain ⟨_, _, _, _, _, _, rfl, _⟩ := h; rfl) | (obtain ⟨_, _, _, _, _, _, _, rfl, _⟩ := h; rfl) | (obtain ⟨_, _, _, _, _, _, _, _, rfl, _⟩ := h; rfl) | (obtain ⟨_, _, _, _, _, _, _, _, _, rfl, _⟩ := h; rfl) | (obtain ⟨_, _, _, _, _, _, _, _, _, _, rfl, _⟩ := h; rfl) | (obtain ⟨_, _, _, _, _, _, _, _, _, _, _, rfl, _⟩ := h; rfl) | (obtain ⟨_, _, _, _, _, _, _, _, _, _, _, _, rfl, _⟩ := h; rfl) | (obtain ⟨_, _, _, _, _, _, _, _, _, _, _, _, _, rfl, _⟩ := h; rfl) | (obtain ⟨_, _, _, _, _, _, _, _, _, _, _, _, _, _, rfl, _⟩ := h; rfl) | (obtain ⟨_, _, _, _, _, _, _, _, _, _, _, _, _, _, _, rfl, _⟩ := h; rfl) | (obtain ⟨_, _, _, _, _, _, _, _, _, _, _, _, _, _, _, _, rfl, _⟩ := h; rfl) | (obtain ⟨_, _, _, _, _, _, _, _, _, _, _, _, _, _, _, _, _, rfl, _⟩ := h; rfl) | (obtain ⟨_, _, _, _, _, _, _, _, _, _, _, _, _, _, _, _, _, _, rfl, _⟩ := h; rfl) | (obtain ⟨_, _, _, _, _, _, _, _, _, _, _, _, _, _, _, _, _, _, _, rfl, _⟩ := h; rfl) | (obtain ⟨_, _, _, _, _, _, _, _, _, _, _, _, _, _, _, _, _, _, _, _, rfl, _⟩ := h; rfl) | (obtain ⟨_, _, _, _, _, _, _, _, _, _, _, _, _, _, _, _, _, _, _, _, _, rfl, _⟩ := h; rfl) | (obtain ⟨_, _, _, _, _, _, _, _, _, _, _, _, _, _, _, _, _, _, _, _, _, _, rfl, _⟩ := h; rfl) | (obtain ⟨_, _, _, _, _, _, _, _, _, _, _, _, _, _, _, _, _, _, _, _, _, _, _, rfl, _⟩ := h; rfl) | (obtain ⟨_, _, _, _, _, _, _, _, _, _, _, _, _, _, _, _, _, _, _, _, _, _, _, _, rfl, _⟩ := h; rfl) | (obtain ⟨_, _, _, _, _, _, _, _, _, _, _, _, _, _, _, _, _, _, _, _, _, _, _, _, _, rfl, _⟩ := h; rfl)) fun cdv A outer s H E hr tk => ⟨_, t__law_spoilt M (F__law_pick_W M D) (by decide) (F__law_amount M D) (by decide) hr tk, fun v0 o ts K0 Z0 h => pl__law_spoilt  v0 o ts K0 Z0 h⟩
theorem F__law_made (M : Md P w K mg base) (D : Ds K mg) : Fn1 P w K mg base 6 "_law_made" ["store", "kinds", "many"] (spI K (g__law_made07).pf) :=
  fn_IT (k := 5) D.d__law_made sc__law_made (fun o ts K0 Z0 h => by first | (obtain ⟨rfl, _⟩ := h; rfl) | (obtain ⟨_, rfl, _⟩ := h; rfl) | (obtain ⟨_, _, rfl, _⟩ := h; rfl) | (obtain ⟨_, _, _, rfl, _⟩ := h; rfl) | (obtain ⟨_, _, _, _, rfl, _⟩ := h; rfl) | (obtain ⟨_, _, _, _, _, rfl, _⟩ := h; rfl) | (obtain ⟨_, _, _, _, _, _, rfl, _⟩ := h; rfl) | (obtain ⟨_, _, _, _, _, _, _, rfl, _⟩ := h; rfl) | (obtain ⟨_, _, _, _, _, _, _, _, rfl, _⟩ := h; rfl) | (obtain ⟨_, _, _, _, _, _, _, _, _, rfl, _⟩ := h; rfl) | (obtain ⟨_, _, _, _, _, _, _, _, _, _, rfl, _⟩ := h; rfl) | (obtain ⟨_, _, _, _, _, _, _, _, _, _, _, rfl, _⟩ := h; rfl) | (obtain ⟨_, _, _, _, _, _, _, _, _, _, _, _, rfl, _⟩ := h; rfl) | (obtain ⟨_, _, _, _, _, _, _, _, _, _, _, _, _, rfl, _⟩ := h; rfl) | (obtain ⟨_, _, _, _, _, _, _, _, _, _, _, _, _, _, rfl, _⟩ := h; rfl) | (obtain ⟨_, _, _, _, _, _, _, _, _, _, _, _, _, _, _, rfl, _⟩ := h; rfl) | (obtain ⟨_, _, _, _, _, _, _, _, _, _, _, _, _, _, _, _, rfl, _⟩ := h; rfl) | (obtain ⟨_, _, _, _, _, _, _, _, _, _, _, _, _, _, _, _, _, rfl, _⟩ := h; rfl) | (obtain ⟨_, _, _, _, _, _, _, _, _, _, _, _, _, _, _, _, _, _, rfl, _⟩ := h; rfl) | (obtain ⟨_, _, _, _, _, _, _, _, _, _, _, _, _, _, _, _, _, _, _, rfl, _⟩ := h; rfl) | (obtain ⟨_, _, _, _, _, _, _, _, _, _, _, _, _, _, _, _, _, _, _, _, rfl, _⟩ := h; rfl) | (obtain ⟨_, _, _, _, _, _, _, _, _, _, _, _, _, _, _, _, _, _, _, _, _, rfl, _⟩ := h; rfl) | (obtain ⟨_, _, _, _, _, _, _, _, _, _, _, _, _, _, _, _, _, _, _, _, _, _, rfl, _⟩ := h; rfl) | (obtain ⟨_, _, _, _, _, _, _, _, _, _, _, _, _, _, _, _, _, _, _, _, _, _, _, rfl, _⟩ := h; rfl) | (obtain ⟨_, _, _, _, _, _, _, _, _, _, _, _, _, _, _, _, _, _, _, _, _, _, _, _, rfl, _⟩ := h; rfl) | (obtain ⟨_, _, _, _, _, _, _, _, _, _, _, _, _, _, _, _, _, _, _, _, _, _, _, _, _, rfl, _⟩ := h; rfl)) fun cdv A outer s H E hr tk => ⟨_, t__law_made M (F__law_form M D) (by decide) (F__law_take M D) (by decide) (F__law_leaf M D) (by decide) (F__law_deep_form M D) (by decide) (F__law_wide_form M D) (by decide) hr tk, fun v0 o ts K0 Z0 h => pl__law_made07  v0 o ts K0 Z0 h⟩
theorem ok_law {fd : FuncData} (M : Md P w K mg base) (D : Ds K mg) (fD : FunD K "law" "law" (defArgs f_law) (defBody f_law) (defScope f_law) [] [] (He.ga K "law") fd) : FnOk P w K mg base (L2N.CX P w) 8 (He.ga K "law") fd ["script"] (spP K (g_law07).pf) :=
  fnok_PT (k := 7) fD sc_law (fun ts K0 Z0 h => by first | (obtain ⟨rfl, _⟩ := h; rfl) | (obtain ⟨_, rfl, _⟩ := h; rfl) | (obtain ⟨_, _, rfl, _⟩ := h; rfl) | (obtain ⟨_, _, _, rfl, _⟩ := h; rfl) | (obtain ⟨_, _, _, _, rfl, _⟩ := h; rfl) | (obtain ⟨_, _, _, _, _, rfl, _⟩ := h; rfl) | (obtain ⟨_, _, _, _, _, _, rfl, _⟩ := h; rfl) | (obtain ⟨_, _, _, _, _, _, _, rfl, _⟩ := h; rfl) | (obtain ⟨_, _, _, _, _, _, _, _, rfl, _⟩ := h; rfl) | (obtain ⟨_, _, _, _, _, _, _, _, _, rfl, _⟩ := h; rfl) | (obtain ⟨_, _, _, _, _, _, _, _, _, _, rfl, _⟩ := h; rfl) | (obtain ⟨_, _, _, _, _, _, _, _, _, _, _, rfl, _⟩ := h; rfl) | (obtain ⟨_, _, _, _, _, _, _, _, _, _, _, _, rfl, _⟩ := h; rfl) | (obtain ⟨_, _, _, _, _, _, _, _, _, _, _, _, _, rfl, _⟩ := h; rfl) | (obtain ⟨_, _, _, _, _, _, _, _, _, _, _, _, _, _, rfl, _⟩ := h; rfl) | (obtain ⟨_, _, _, _, _, _, _, _, _, _, _, _, _, _, _, rfl, _⟩ := h; rfl) | (obtain ⟨_, _, _, _, _, _, _, _, _, _, _, _, _, _, _, _, rfl, _⟩ := h; rfl) | (obtain ⟨_, _, _, _, _, _, _, _, _, _, _, _, _, _, _, _, _, rfl, _⟩ := h; rfl) | (obtain ⟨_, _, _, _, _, _, _, _, _, _, _, _, _, _, _, _, _, _, rfl, _⟩ := h; rfl) | (obtain ⟨_, _, _, _, _, _, _, _, _, _, _, _, _, _, _, _, _, _, _, rfl, _⟩ := h; rfl) | (obtain ⟨_, _, _, _, _, _, _, _, _, _, _, _, _, _, _, _, _, _, _, _, rfl, _⟩ := h; rfl) | (obtain ⟨_, _, _, _, _, _, _, _, _, _, _, _, _, _, _, _, _, _, _, _, _, rfl, _⟩ := h; rfl) | (obtain ⟨_, _, _, _, _, _, _, _, _, _, _, _, _, _, _, _, _, _, _, _, _, _, rfl, _⟩ := h; rfl) | (obtain ⟨_, _, _, _, _, _, _, _, _, _, _, _, _, _, _, _, _, _, _, _, _, _, _, rfl, _⟩ := h; rfl) | (obtain ⟨_, _, _, _, _, _, _, _, _, _, _, _, _, _, _, _, _, _, _, _, _, _, _, _, rfl, _⟩ := h; rfl) | (obtain ⟨_, _, _, _, _, _, _, _, _, _, _, _, _, _, _, _, _, _, _, _, _, _, _, _, _, rfl, _⟩ := h; rfl)) fun cdv A outer s H E hr tk => ⟨_, t_law M (F__law_store M D) (by decide) (F__law_letters M D) (by decide) (F__law_take M D) (by decide) (F__law_pick_W M D) (by decide) (F__law_made M D) (by decide) (F__law_form_text M D) (by decide) (F__law_scan M D) (by decide) (F__law_same M D) (by decide) (F_show_row M D) (by decide) (F_show_form M D) (by decide) (F__law_spoilt M D) (by decide) (F__law_due M D) (by decide) (F__law_told M D) (by decide) hr tk, fun ts K0 Z0 h => pl_law07  ts K0 Z0 h⟩
end
end Rd
end TL
set_option maxHeartbeats 4000000
namespace TL
open PySem PySem.Spec PyProof.Rows L2
namespace Rd
section
variable {w : World} {K : PySem.W.Frag} {mg : Str → Option Value} {h h0 : Heap}
theorem ex_c (c : _root_.Hd.ex K = true) : ∀ n ∈ clsN, exB fldN K n = true := fun n hn => List.all_eq_true.mp (andB c).1 n hn
theorem ex_k (c : _root_.Hd.ex K = true) : ∀ n ∈ _root_.Hd.kitL, kitC clsN K n = true := fun n hn => List.all_eq_true.mp (andB (andB (andB c).2).1).1 n hn
theorem ex_t0 (c : _root_.Hd.ex K = true) : tabB kvs_SIGNS "SIGNS" K = true := (andB (andB c).2).2
theorem ds_of (X : K.In h) (G : h.Ns mainGlobals mg) (c : He.SaysX _root_.Hd.fa _root_.Hd.fn _root_.Hd.ts [] _root_.Hd.ex w h0 K) : Ds K mg where
  d_letters_from := ⟨He.glo_ok X G (c.t.d.fact 16 (f := .glo "letters_from") rfl), let ⟨fd, F⟩ := c.t.d.def_ 15 (d := _root_.Hd.d_letters_from) rfl; ⟨fd, F, FunD.bindsN (ps := ["text", "start"]) F fun _ _ _ _ _ _ us hl => match us, hl with | [_, _], _ => rfl⟩⟩
  d_digits_from := ⟨He.glo_ok X G (c.t.d.fact 17 (f := .glo "digits_from") rfl), let ⟨fd, F⟩ := c.t.d.def_ 16 (d := _root_.Hd.d_digits_from) rfl; ⟨fd, F, FunD.bindsN (ps := ["text", "start", "most"]) F fun _ _ _ _ _ _ us hl => match us, hl with | [_, _, _], _ => rfl⟩⟩
  d_preorder := ⟨He.glo_ok X G (c.t.d.fact 18 (f := .glo "preorder") rfl), let ⟨fd, F⟩ := c.t.d.def_ 17 (d := _root_.Hd.d_preorder) rfl; ⟨fd, F, FunD.bindsN (ps := ["form"]) F fun _ _ _ _ _ _ us hl => match us, hl with | [_], _ => rfl⟩⟩
  d_form_depth := ⟨He.glo_ok X G (c.t.d.fact 19 (f := .glo "form_depth") rfl), let ⟨fd, F⟩ := c.t.d.def_ 18 (d := _root_.Hd.d_form_depth) rfl; ⟨fd, F, FunD.bindsN (ps := ["form"]) F fun _ _ _ _ _ _ us hl => match us, hl with | [_], _ => rfl⟩⟩
  d_form_size := ⟨He.glo_ok X G (c.t.d.fact 20 (f := .glo "form_size") rfl), let ⟨fd, F⟩ := c.t.d.def_ 19 (d := _root_.Hd.d_form_size) rfl; ⟨fd, F, FunD.bindsN (ps := ["form"]) F fun _ _ _ _ _ _ us hl => match us, hl with | [_], _ => rfl⟩⟩
  d_show_form := ⟨He.glo_ok X G (c.t.d.fact 21 (f := .glo "show_form") rfl), let ⟨fd, F⟩ := c.t.d.def_ 20 (d := _root_.Hd.d_show_form) rfl; ⟨fd, F, FunD.bindsN (ps := ["form"]) F fun _ _ _ _ _ _ us hl => match us, hl with | [_], _ => rfl⟩⟩
  d_show_row := ⟨He.glo_ok X G (c.t.d.fact 22 (f := .glo "show_row") rfl), let ⟨fd, F⟩ := c.t.d.def_ 21 (d := _root_.Hd.d_show_row) rfl; ⟨fd, F, FunD.bindsN (ps := ["row"]) F fun _ _ _ _ _ _ us hl => match us, hl with | [_], _ => rfl⟩⟩
  d_after_sign := ⟨He.glo_ok X G (c.t.d.fact 23 (f := .glo "after_sign") rfl), let ⟨fd, F⟩ := c.t.d.def_ 22 (d := _root_.Hd.d_after_sign) rfl; ⟨fd, F, FunD.bindsN (ps := ["text", "at", "sign"]) F fun _ _ _ _ _ _ us hl => match us, hl with | [_, _, _], _ => rfl⟩⟩
  d_after_name := ⟨He.glo_ok X G (c.t.d.fact 24 (f := .glo "after_name") rfl), let ⟨fd, F⟩ := c.t.d.def_ 23 (d := _root_.Hd.d_after_name) rfl; ⟨fd, F, FunD.bindsN (ps := ["text", "at"]) F fun _ _ _ _ _ _ us hl => match us, hl with | [_, _], _ => rfl⟩⟩
  d_after_number := ⟨He.glo_ok X G (c.t.d.fact 25 (f := .glo "after_number") rfl), let ⟨fd, F⟩ := c.t.d.def_ 24 (d := _root_.Hd.d_after_number) rfl; ⟨fd, F, FunD.bindsN (ps := ["text", "at"]) F fun _ _ _ _ _ _ us hl => match us, hl with | [_, _], _ => rfl⟩⟩
  d_middle_at := ⟨He.glo_ok X G (c.t.d.fact 26 (f := .glo "middle_at") rfl), let ⟨fd, F⟩ := c.t.d.def_ 25 (d := _root_.Hd.d_middle_at) rfl; ⟨fd, F, FunD.bindsN (ps := ["text", "at"]) F fun _ _ _ _ _ _ us hl => match us, hl with | [_, _], _ => rfl⟩⟩
  d_leaf_at := ⟨He.glo_ok X G (c.t.d.fact 27 (f := .glo "leaf_at") rfl), let ⟨fd, F⟩ := c.t.d.def_ 26 (d := _root_.Hd.d_leaf_at) rfl; ⟨fd, F, FunD.bindsN (ps := ["text", "at"]) F fun _ _ _ _ _ _ us hl => match us, hl with | [_, _], _ => rfl⟩⟩
  d_closed_at := ⟨He.glo_ok X G (c.t.d.fact 28 (f := .glo "closed_at") rfl), let ⟨fd, F⟩ := c.t.d.def_ 27 (d := _root_.Hd.d_closed_at) rfl; ⟨fd, F, FunD.bindsN (ps := ["text", "at", "entry", "form"]) F fun _ _ _ _ _ _ us hl => match us, hl with | [_, _, _, _], _ => rfl⟩⟩
  d_form_at := ⟨He.glo_ok X G (c.t.d.fact 29 (f := .glo "form_at") rfl), let ⟨fd, F⟩ := c.t.d.def_ 28 (d := _root_.Hd.d_form_at) rfl; ⟨fd, F, FunD.bindsN (ps := ["text", "at"]) F fun _ _ _ _ _ _ us hl => match us, hl with | [_, _], _ => rfl⟩⟩
  d_ask_end := ⟨He.glo_ok X G (c.t.d.fact 30 (f := .glo "ask_end") rfl), let ⟨fd, F⟩ := c.t.d.def_ 29 (d := _root_.Hd.d_ask_end) rfl; ⟨fd, F, FunD.bindsN (ps := ["text", "at"]) F fun _ _ _ _ _ _ us hl => match us, hl with | [_, _], _ => rfl⟩⟩
  d_ask_limits := ⟨He.glo_ok X G (c.t.d.fact 31 (f := .glo "ask_limits") rfl), let ⟨fd, F⟩ := c.t.d.def_ 30 (d := _root_.Hd.d_ask_limits) rfl; ⟨fd, F, FunD.bindsN (ps := ["forms"]) F fun _ _ _ _ _ _ us hl => match us, hl with | [_], _ => rfl⟩⟩
  d_read_form := ⟨He.glo_ok X G (c.t.d.fact 32 (f := .glo "read_form") rfl), let ⟨fd, F⟩ := c.t.d.def_ 31 (d := _root_.Hd.d_read_form) rfl; ⟨fd, F, FunD.bindsN (ps := ["text"]) F fun _ _ _ _ _ _ us hl => match us, hl with | [_], _ => rfl⟩⟩
  d_read_row := ⟨He.glo_ok X G (c.t.d.fact 33 (f := .glo "read_row") rfl), let ⟨fd, F⟩ := c.t.d.def_ 32 (d := _root_.Hd.d_read_row) rfl; ⟨fd, F, FunD.bindsN (ps := ["text"]) F fun _ _ _ _ _ _ us hl => match us, hl with | [_], _ => rfl⟩⟩
  d__law_mixed := ⟨He.glo_ok X G (c.t.d.fact 34 (f := .glo "_law_mixed") rfl), let ⟨fd, F⟩ := c.t.d.def_ 33 (d := _root_.Hd.d__law_mixed) rfl; ⟨fd, F, FunD.bindsN (ps := ["number"]) F fun _ _ _ _ _ _ us hl => match us, hl with | [_], _ => rfl⟩⟩
  d__law_store := ⟨He.glo_ok X G (c.t.d.fact 35 (f := .glo "_law_store") rfl), let ⟨fd, F⟩ := c.t.d.def_ 34 (d := _root_.Hd.d__law_store) rfl; ⟨fd, F, FunD.bindsN (ps := ["script"]) F fun _ _ _ _ _ _ us hl => match us, hl with | [_], _ => rfl⟩⟩
  d__law_advance := ⟨He.glo_ok X G (c.t.d.fact 36 (f := .glo "_law_advance") rfl), let ⟨fd, F⟩ := c.t.d.def_ 35 (d := _root_.Hd.d__law_advance) rfl; ⟨fd, F, FunD.bindsN (ps := ["store"]) F fun _ _ _ _ _ _ us hl => match us, hl with | [_], _ => rfl⟩⟩
  d__law_take := ⟨He.glo_ok X G (c.t.d.fact 37 (f := .glo "_law_take") rfl), let ⟨fd, F⟩ := c.t.d.def_ 36 (d := _root_.Hd.d__law_take) rfl; ⟨fd, F, FunD.bindsN (ps := ["store", "many"]) F fun _ _ _ _ _ _ us hl => match us, hl with | [_, _], _ => rfl⟩⟩
  d__law_pick := ⟨He.glo_ok X G (c.t.d.fact 38 (f := .glo "_law_pick") rfl), let ⟨fd, F⟩ := c.t.d.def_ 37 (d := _root_.Hd.d__law_pick) rfl; ⟨fd, F, FunD.bindsN (ps := ["store", "things"]) F fun _ _ _ _ _ _ us hl => match us, hl with | [_, _], _ => rfl⟩⟩
  d__law_amount := ⟨He.glo_ok X G (c.t.d.fact 39 (f := .glo "_law_amount") rfl), let ⟨fd, F⟩ := c.t.d.def_ 38 (d := _root_.Hd.d__law_amount) rfl; ⟨fd, F, FunD.bindsN (ps := ["store", "low", "high"]) F fun _ _ _ _ _ _ us hl => match us, hl with | [_, _, _], _ => rfl⟩⟩
  d__law_letters := ⟨He.glo_ok X G (c.t.d.fact 40 (f := .glo "_law_letters") rfl), let ⟨fd, F⟩ := c.t.d.def_ 39 (d := _root_.Hd.d__law_letters) rfl; ⟨fd, F, FunD.bindsN (ps := ["store", "many"]) F fun _ _ _ _ _ _ us hl => match us, hl with | [_, _], _ => rfl⟩⟩
  d__law_leaf := ⟨He.glo_ok X G (c.t.d.fact 41 (f := .glo "_law_leaf") rfl), let ⟨fd, F⟩ := c.t.d.def_ 40 (d := _root_.Hd.d__law_leaf) rfl; ⟨fd, F, FunD.bindsN (ps := ["store", "kinds", "many"]) F fun _ _ _ _ _ _ us hl => match us, hl with | [_, _, _], _ => rfl⟩⟩
  d__law_form := ⟨He.glo_ok X G (c.t.d.fact 42 (f := .glo "_law_form") rfl), let ⟨fd, F⟩ := c.t.d.def_ 41 (d := _root_.Hd.d__law_form) rfl; ⟨fd, F, FunD.bindsN (ps := ["store", "kinds", "many", "steps"]) F fun _ _ _ _ _ _ us hl => match us, hl with | [_, _, _, _], _ => rfl⟩⟩
  d__law_deep_form := ⟨He.glo_ok X G (c.t.d.fact 43 (f := .glo "_law_deep_form") rfl), let ⟨fd, F⟩ := c.t.d.def_ 42 (d := _root_.Hd.d__law_deep_form) rfl; ⟨fd, F, FunD.bindsN (ps := ["store", "leaf", "depth"]) F fun _ _ _ _ _ _ us hl => match us, hl with | [_, _, _], _ => rfl⟩⟩
  d__law_wide_form := ⟨He.glo_ok X G (c.t.d.fact 44 (f := .glo "_law_wide_form") rfl), let ⟨fd, F⟩ := c.t.d.def_ 43 (d := _root_.Hd.d__law_wide_form) rfl; ⟨fd, F, FunD.bindsN (ps := ["store", "leaf", "nodes"]) F fun _ _ _ _ _ _ us hl => match us, hl with | [_, _, _], _ => rfl⟩⟩
  d__law_kids := ⟨He.glo_ok X G (c.t.d.fact 45 (f := .glo "_law_kids") rfl), let ⟨fd, F⟩ := c.t.d.def_ 44 (d := _root_.Hd.d__law_kids) rfl; ⟨fd, F, FunD.bindsN (ps := ["form"]) F fun _ _ _ _ _ _ us hl => match us, hl with | [_], _ => rfl⟩⟩
  d__law_preorder := ⟨He.glo_ok X G (c.t.d.fact 46 (f := .glo "_law_preorder") rfl), let ⟨fd, F⟩ := c.t.d.def_ 45 (d := _root_.Hd.d__law_preorder) rfl; ⟨fd, F, FunD.bindsN (ps := ["form"]) F fun _ _ _ _ _ _ us hl => match us, hl with | [_], _ => rfl⟩⟩
  d__law_form_text := ⟨He.glo_ok X G (c.t.d.fact 47 (f := .glo "_law_form_text") rfl), let ⟨fd, F⟩ := c.t.d.def_ 46 (d := _root_.Hd.d__law_form_text) rfl; ⟨fd, F, FunD.bindsN (ps := ["form"]) F fun _ _ _ _ _ _ us hl => match us, hl with | [_], _ => rfl⟩⟩
  d__law_same := ⟨He.glo_ok X G (c.t.d.fact 48 (f := .glo "_law_same") rfl), let ⟨fd, F⟩ := c.t.d.def_ 47 (d := _root_.Hd.d__law_same) rfl; ⟨fd, F, FunD.bindsN (ps := ["one", "two"]) F fun _ _ _ _ _ _ us hl => match us, hl with | [_, _], _ => rfl⟩⟩
  d__law_common := ⟨He.glo_ok X G (c.t.d.fact 49 (f := .glo "_law_common") rfl), let ⟨fd, F⟩ := c.t.d.def_ 48 (d := _root_.Hd.d__law_common) rfl; ⟨fd, F, FunD.bindsN (ps := ["text", "at", "word"]) F fun _ _ _ _ _ _ us hl => match us, hl with | [_, _, _], _ => rfl⟩⟩
  d__law_leaf_end := ⟨He.glo_ok X G (c.t.d.fact 50 (f := .glo "_law_leaf_end") rfl), let ⟨fd, F⟩ := c.t.d.def_ 49 (d := _root_.Hd.d__law_leaf_end) rfl; ⟨fd, F, FunD.bindsN (ps := ["text", "at"]) F fun _ _ _ _ _ _ us hl => match us, hl with | [_, _], _ => rfl⟩⟩
  d__law_scan := ⟨He.glo_ok X G (c.t.d.fact 51 (f := .glo "_law_scan") rfl), let ⟨fd, F⟩ := c.t.d.def_ 50 (d := _root_.Hd.d__law_scan) rfl; ⟨fd, F, FunD.bindsN (ps := ["text", "rows"]) F fun _ _ _ _ _ _ us hl => match us, hl with | [_, _], _ => rfl⟩⟩
  d__law_is_form := ⟨He.glo_ok X G (c.t.d.fact 52 (f := .glo "_law_is_form") rfl), let ⟨fd, F⟩ := c.t.d.def_ 51 (d := _root_.Hd.d__law_is_form) rfl; ⟨fd, F, FunD.bindsN (ps := ["value"]) F fun _ _ _ _ _ _ us hl => match us, hl with | [_], _ => rfl⟩⟩
  d__law_due := ⟨He.glo_ok X G (c.t.d.fact 53 (f := .glo "_law_due") rfl), let ⟨fd, F⟩ := c.t.d.def_ 52 (d := _root_.Hd.d__law_due) rfl; ⟨fd, F, FunD.bindsN (ps := ["text", "rows"]) F fun _ _ _ _ _ _ us hl => match us, hl with | [_, _], _ => rfl⟩⟩
  d__law_told := ⟨He.glo_ok X G (c.t.d.fact 54 (f := .glo "_law_told") rfl), let ⟨fd, F⟩ := c.t.d.def_ 53 (d := _root_.Hd.d__law_told) rfl; ⟨fd, F, FunD.bindsN (ps := ["text", "rows"]) F fun _ _ _ _ _ _ us hl => match us, hl with | [_, _], _ => rfl⟩⟩
  d__law_spoilt := ⟨He.glo_ok X G (c.t.d.fact 55 (f := .glo "_law_spoilt") rfl), let ⟨fd, F⟩ := c.t.d.def_ 54 (d := _root_.Hd.d__law_spoilt) rfl; ⟨fd, F, FunD.bindsN (ps := ["store", "text"]) F fun _ _ _ _ _ _ us hl => match us, hl with | [_, _], _ => rfl⟩⟩
  d__law_made := ⟨He.glo_ok X G (c.t.d.fact 56 (f := .glo "_law_made") rfl), let ⟨fd, F⟩ := c.t.d.def_ 55 (d := _root_.Hd.d__law_made) rfl; ⟨fd, F, FunD.bindsN (ps := ["store", "kinds", "many"]) F fun _ _ _ _ _ _ us hl => match us, hl with | [_, _, _], _ => rfl⟩⟩
  d_law := ⟨He.glo_ok X G (c.t.d.fact 57 (f := .glo "law") rfl), let ⟨fd, F⟩ := c.t.d.def_ 56 (d := _root_.Hd.d_law) rfl; ⟨fd, F, FunD.bindsN (ps := ["script"]) F fun _ _ _ _ _ _ us hl => match us, hl with | [_], _ => rfl⟩⟩
  kx := kx7_of fun n hn => ex_k c.more n hn
theorem md_of {base : Heap} (X : K.In h) (G : h.Ns mainGlobals mg) (c : He.SaysX _root_.Hd.fa _root_.Hd.fn _root_.Hd.ts [] _root_.Hd.ex w h0 K) : Md (PySem.W.OpenLaw.row PySem.Challenge.rw_betweenkinds_k07_form_texts).prog w K mg base where
  ValueError := He.free_ok X G (c.t.d.fact 58 (f := .free "ValueError") rfl)
  abs := He.free_ok X G (c.t.d.fact 59 (f := .free "abs") rfl)
  all := He.free_ok X G (c.t.d.fact 60 (f := .free "all") rfl)
  any := He.free_ok X G (c.t.d.fact 61 (f := .free "any") rfl)
  bool := He.free_ok X G (c.t.d.fact 62 (f := .free "bool") rfl)
  int := He.free_ok X G (c.t.d.fact 63 (f := .free "int") rfl)
  isinstance := He.free_ok X G (c.t.d.fact 64 (f := .free "isinstance") rfl)
  len := He.free_ok X G (c.t.d.fact 65 (f := .free "len") rfl)
  list := He.free_ok X G (c.t.d.fact 66 (f := .free "list") rfl)
  max := He.free_ok X G (c.t.d.fact 67 (f := .free "max") rfl)
  range := He.free_ok X G (c.t.d.fact 68 (f := .free "range") rfl)
  str := He.free_ok X G (c.t.d.fact 69 (f := .free "str") rfl)
  tuple := He.free_ok X G (c.t.d.fact 70 (f := .free "tuple") rfl)
  MOST_LETTERS := let ⟨t, e⟩ := He.int_ok X G (c.t.d.fact 71 (f := .int "MOST_LETTERS" 8) rfl); ⟨_, e, t, rfl⟩
  MOST_DIGITS := let ⟨t, e⟩ := He.int_ok X G (c.t.d.fact 72 (f := .int "MOST_DIGITS" 2) rfl); ⟨_, e, t, rfl⟩
  MOST_DEPTH := let ⟨t, e⟩ := He.int_ok X G (c.t.d.fact 73 (f := .int "MOST_DEPTH" 24) rfl); ⟨_, e, t, rfl⟩
  MOST_NODES := let ⟨t, e⟩ := He.int_ok X G (c.t.d.fact 74 (f := .int "MOST_NODES" 100) rfl); ⟨_, e, t, rfl⟩
  MOST_FIGURES := let ⟨t, e⟩ := He.int_ok X G (c.t.d.fact 75 (f := .int "MOST_FIGURES" 4) rfl); ⟨_, e, t, rfl⟩
  SIGNS := ⟨_, tab_of (He.glo_ok X G (c.t.d.fact 76 (f := .glo "SIGNS") rfl)) (c.t.tab 0 rfl) (ex_t0 c.more)⟩
  c_Trouble := He.glo_ok X G (c.t.d.fact 0 (f := .glo "Trouble") rfl)
  c_BadText := He.glo_ok X G (c.t.d.fact 1 (f := .glo "BadText") rfl)
  k_BadText := xk_of (y := "at") (st := _root_.Hd.m_BadText___init__) (ex_c c.more _ (by decide)) (by decide) (He.glo_ok X G (c.t.d.fact 1 (f := .glo "BadText") rfl)) (let ⟨fd, F⟩ := c.t.d.def_ 0 (d := _root_.Hd.d_m_BadText___init__) rfl; ⟨fd, F, FunD.bindsN (ps := ["self", "at"]) F fun _ _ _ _ _ _ us hl => match us, hl with | [_, _], _ => rfl⟩) ⟨rfl, rfl, rfl, by decide +kernel, rfl, by decide +kernel, by decide +kernel⟩ rfl rfl rfl (by decide) (by decide)
  c_UnknownName := He.glo_ok X G (c.t.d.fact 2 (f := .glo "UnknownName") rfl)
  k_UnknownName := xk_of (y := "name") (st := _root_.Hd.m_UnknownName___init__) (ex_c c.more _ (by decide)) (by decide) (He.glo_ok X G (c.t.d.fact 2 (f := .glo "UnknownName") rfl)) (let ⟨fd, F⟩ := c.t.d.def_ 1 (d := _root_.Hd.d_m_UnknownName___init__) rfl; ⟨fd, F, FunD.bindsN (ps := ["self", "name"]) F fun _ _ _ _ _ _ us hl => match us, hl with | [_, _], _ => rfl⟩) ⟨rfl, rfl, rfl, by decide +kernel, rfl, by decide +kernel, by decide +kernel⟩ rfl rfl rfl (by decide) (by decide)
  c_Twice := He.glo_ok X G (c.t.d.fact 3 (f := .glo "Twice") rfl)
  k_Twice := xk_of (y := "name") (st := _root_.Hd.m_Twice___init__) (ex_c c.more _ (by decide)) (by decide) (He.glo_ok X G (c.t.d.fact 3 (f := .glo "Twice") rfl)) (let ⟨fd, F⟩ := c.t.d.def_ 2 (d := _root_.Hd.d_m_Twice___init__) rfl; ⟨fd, F, FunD.bindsN (ps := ["self", "name"]) F fun _ _ _ _ _ _ us hl => match us, hl with | [_, _], _ => rfl⟩) ⟨rfl, rfl, rfl, by decide +kernel, rfl, by decide +kernel, by decide +kernel⟩ rfl rfl rfl (by decide) (by decide)
  c_Circle := He.glo_ok X G (c.t.d.fact 4 (f := .glo "Circle") rfl)
  c_BadRow := He.glo_ok X G (c.t.d.fact 5 (f := .glo "BadRow") rfl)
  k_BadRow := xk_of (y := "number") (st := _root_.Hd.m_BadRow___init__) (ex_c c.more _ (by decide)) (by decide) (He.glo_ok X G (c.t.d.fact 5 (f := .glo "BadRow") rfl)) (let ⟨fd, F⟩ := c.t.d.def_ 4 (d := _root_.Hd.d_m_BadRow___init__) rfl; ⟨fd, F, FunD.bindsN (ps := ["self", "number"]) F fun _ _ _ _ _ _ us hl => match us, hl with | [_, _], _ => rfl⟩) ⟨rfl, rfl, rfl, by decide +kernel, rfl, by decide +kernel, by decide +kernel⟩ rfl rfl rfl (by decide) (by decide)
  c_NotThere := He.glo_ok X G (c.t.d.fact 6 (f := .glo "NotThere") rfl)
  k_NotThere := xk_of (y := "number") (st := _root_.Hd.m_NotThere___init__) (ex_c c.more _ (by decide)) (by decide) (He.glo_ok X G (c.t.d.fact 6 (f := .glo "NotThere") rfl)) (let ⟨fd, F⟩ := c.t.d.def_ 5 (d := _root_.Hd.d_m_NotThere___init__) rfl; ⟨fd, F, FunD.bindsN (ps := ["self", "number"]) F fun _ _ _ _ _ _ us hl => match us, hl with | [_, _], _ => rfl⟩) ⟨rfl, rfl, rfl, by decide +kernel, rfl, by decide +kernel, by decide +kernel⟩ rfl rfl rfl (by decide) (by decide)
  c_TooDeep := He.glo_ok X G (c.t.d.fact 7 (f := .glo "TooDeep") rfl)
  k_TooDeep := xk_of (y := "limit") (st := _root_.Hd.m_TooDeep___init__) (ex_c c.more _ (by decide)) (by decide) (He.glo_ok X G (c.t.d.fact 7 (f := .glo "TooDeep") rfl)) (let ⟨fd, F⟩ := c.t.d.def_ 6 (d := _root_.Hd.d_m_TooDeep___init__) rfl; ⟨fd, F, FunD.bindsN (ps := ["self", "limit"]) F fun _ _ _ _ _ _ us hl => match us, hl with | [_, _], _ => rfl⟩) ⟨rfl, rfl, rfl, by decide +kernel, rfl, by decide +kernel, by decide +kernel⟩ rfl rfl rfl (by decide) (by decide)
  c_TooBig := He.glo_ok X G (c.t.d.fact 8 (f := .glo "TooBig") rfl)
  k_TooBig := xk_of (y := "limit") (st := _root_.Hd.m_TooBig___init__) (ex_c c.more _ (by decide)) (by decide) (He.glo_ok X G (c.t.d.fact 8 (f := .glo "TooBig") rfl)) (let ⟨fd, F⟩ := c.t.d.def_ 7 (d := _root_.Hd.d_m_TooBig___init__) rfl; ⟨fd, F, FunD.bindsN (ps := ["self", "limit"]) F fun _ _ _ _ _ _ us hl => match us, hl with | [_, _], _ => rfl⟩) ⟨rfl, rfl, rfl, by decide +kernel, rfl, by decide +kernel, by decide +kernel⟩ rfl rfl rfl (by decide) (by decide)
  c_NoMeaning := He.glo_ok X G (c.t.d.fact 9 (f := .glo "NoMeaning") rfl)
  k_NoMeaning := xk_of (y := "name") (st := _root_.Hd.m_NoMeaning___init__) (ex_c c.more _ (by decide)) (by decide) (He.glo_ok X G (c.t.d.fact 9 (f := .glo "NoMeaning") rfl)) (let ⟨fd, F⟩ := c.t.d.def_ 8 (d := _root_.Hd.d_m_NoMeaning___init__) rfl; ⟨fd, F, FunD.bindsN (ps := ["self", "name"]) F fun _ _ _ _ _ _ us hl => match us, hl with | [_, _], _ => rfl⟩) ⟨rfl, rfl, rfl, by decide +kernel, rfl, by decide +kernel, by decide +kernel⟩ rfl rfl rfl (by decide) (by decide)
  c_NoSolution := He.glo_ok X G (c.t.d.fact 10 (f := .glo "NoSolution") rfl)
  k_NoSolution := xk_of (y := "word") (st := _root_.Hd.m_NoSolution___init__) (ex_c c.more _ (by decide)) (by decide) (He.glo_ok X G (c.t.d.fact 10 (f := .glo "NoSolution") rfl)) (let ⟨fd, F⟩ := c.t.d.def_ 9 (d := _root_.Hd.d_m_NoSolution___init__) rfl; ⟨fd, F, FunD.bindsN (ps := ["self", "word"]) F fun _ _ _ _ _ _ us hl => match us, hl with | [_, _], _ => rfl⟩) ⟨rfl, rfl, rfl, by decide +kernel, rfl, by decide +kernel, by decide +kernel⟩ rfl rfl rfl (by decide) (by decide)
  c_Rough := He.glo_ok X G (c.t.d.fact 11 (f := .glo "Rough") rfl)
  k_Rough := xk_of (y := "kind") (st := _root_.Hd.m_Rough___init__) (ex_c c.more _ (by decide)) (by decide) (He.glo_ok X G (c.t.d.fact 11 (f := .glo "Rough") rfl)) (let ⟨fd, F⟩ := c.t.d.def_ 10 (d := _root_.Hd.d_m_Rough___init__) rfl; ⟨fd, F, FunD.bindsN (ps := ["self", "kind"]) F fun _ _ _ _ _ _ us hl => match us, hl with | [_, _], _ => rfl⟩) ⟨rfl, rfl, rfl, by decide +kernel, rfl, by decide +kernel, by decide +kernel⟩ rfl rfl rfl (by decide) (by decide)
  c_TooWide := He.glo_ok X G (c.t.d.fact 12 (f := .glo "TooWide") rfl)
  k_TooWide := xk_of (y := "limit") (st := _root_.Hd.m_TooWide___init__) (ex_c c.more _ (by decide)) (by decide) (He.glo_ok X G (c.t.d.fact 12 (f := .glo "TooWide") rfl)) (let ⟨fd, F⟩ := c.t.d.def_ 11 (d := _root_.Hd.d_m_TooWide___init__) rfl; ⟨fd, F, FunD.bindsN (ps := ["self", "limit"]) F fun _ _ _ _ _ _ us hl => match us, hl with | [_, _], _ => rfl⟩) ⟨rfl, rfl, rfl, by decide +kernel, rfl, by decide +kernel, by decide +kernel⟩ rfl rfl rfl (by decide) (by decide)
  c_InUse := He.glo_ok X G (c.t.d.fact 13 (f := .glo "InUse") rfl)
  k_InUse := xk_of (y := "name") (st := _root_.Hd.m_InUse___init__) (ex_c c.more _ (by decide)) (by decide) (He.glo_ok X G (c.t.d.fact 13 (f := .glo "InUse") rfl)) (let ⟨fd, F⟩ := c.t.d.def_ 12 (d := _root_.Hd.d_m_InUse___init__) rfl; ⟨fd, F, FunD.bindsN (ps := ["self", "name"]) F fun _ _ _ _ _ _ us hl => match us, hl with | [_, _], _ => rfl⟩) ⟨rfl, rfl, rfl, by decide +kernel, rfl, by decide +kernel, by decide +kernel⟩ rfl rfl rfl (by decide) (by decide)
  c_Stuck := He.glo_ok X G (c.t.d.fact 14 (f := .glo "Stuck") rfl)
  k_Stuck := xk_of (y := "node") (st := _root_.Hd.m_Stuck___init__) (ex_c c.more _ (by decide)) (by decide) (He.glo_ok X G (c.t.d.fact 14 (f := .glo "Stuck") rfl)) (let ⟨fd, F⟩ := c.t.d.def_ 13 (d := _root_.Hd.d_m_Stuck___init__) rfl; ⟨fd, F, FunD.bindsN (ps := ["self", "node"]) F fun _ _ _ _ _ _ us hl => match us, hl with | [_, _], _ => rfl⟩) ⟨rfl, rfl, rfl, by decide +kernel, rfl, by decide +kernel, by decide +kernel⟩ rfl rfl rfl (by decide) (by decide)
  c_TooLong := He.glo_ok X G (c.t.d.fact 15 (f := .glo "TooLong") rfl)
  k_TooLong := xk_of (y := "limit") (st := _root_.Hd.m_TooLong___init__) (ex_c c.more _ (by decide)) (by decide) (He.glo_ok X G (c.t.d.fact 15 (f := .glo "TooLong") rfl)) (let ⟨fd, F⟩ := c.t.d.def_ 14 (d := _root_.Hd.d_m_TooLong___init__) rfl; ⟨fd, F, FunD.bindsN (ps := ["self", "limit"]) F fun _ _ _ _ _ _ us hl => match us, hl with | [_, _], _ => rfl⟩) ⟨rfl, rfl, rfl, by decide +kernel, rfl, by decide +kernel, by decide +kernel⟩ rfl rfl rfl (by decide) (by decide)
  xq := fun C ⟨n, hn, e⟩ => e ▸ exB_xq (ex_c c.more n hn)
  xf := fun C ⟨n, hn, e⟩ => e ▸ exB_xf (ex_c c.more n hn)
  xn := fun C ⟨n, hn, e⟩ f hf => e ▸ exB_no (ex_c c.more n hn) hf
theorem facts {f : Addr} (X : K.In h) (G : h.Ns mainGlobals mg) (hf : mg ("law" : Str) = some (.ref f)) (c : He.SaysX _root_.Hd.fa _root_.Hd.fn _root_.Hd.ts [] _root_.Hd.ex w h0 K) :
    ∃ fd : FuncData, (∀ (s : Shared) (v : Value), BindsTo s fd ⟨[v], []⟩ [("script", v)]) ∧ ∀ base : Heap, K.In base → base.Ns mainGlobals mg → FnOk (PySem.W.OpenLaw.row PySem.Challenge.rw_betweenkinds_k07_form_texts).prog w K mg base (CXA (PySem.W.OpenLaw.row PySem.Challenge.rw_betweenkinds_k07_form_texts).prog) 8 f fd ["script"] (spP K g_law07.pf) := by
  obtain ⟨fd, F⟩ := c.t.d.def_ 56 (d := _root_.Hd.d_law) rfl
  have e := hf.symm.trans (He.glo_ok X G (c.t.d.fact 57 (f := .glo "law") rfl))
  cases e
  have b := FunD.bindsA (ps := ["script"]) F fun _ _ _ _ _ _ us hl => match us, hl with | [_], _ => rfl
  exact ⟨fd, fun s v => b s [v] rfl, fun base KB GB => cxa (ok_law (md_of KB GB c) (ds_of X G c) F)⟩
end
end Rd
end TL
open PySem PySem.W PySem.Calls PyProof.Rows
theorem PySem.Challenge.cw_betweenkinds_k07_form_texts_holds : PySem.Challenge.rw_betweenkinds_k07_form_texts.Holds := by
  w_on; o_law
  refine HandSHeadRun.head_any (r := OpenLaw.row PySem.Challenge.rw_betweenkinds_k07_form_texts) (q := view (OpenLaw.row PySem.Challenge.rw_betweenkinds_k07_form_texts).prog [67]) (H := Hd.hk) (ob := Hd.ob) (M := 12000) (loose := Hd.names) (d := HandSHeadRun.topDef (OpenLaw.row PySem.Challenge.rw_betweenkinds_k07_form_texts).prog 67) (kwd := []) Hd.ob_eq
    (by kernel_rfl) (fun s => by kernel_rfl) Hd.run (by kernel_rfl) (by kernel_rfl) (by kernel_rfl) (by rfl) (by first | assumption | decide +kernel) (by decide +kernel) ⟨rfl, rfl, rfl, rfl, rfl, by decide +kernel⟩ ?hw ?hc
  case hw => w_witness2
  case hc =>
    refine L2.walk_ofE (l := PySem.Challenge.rw_betweenkinds_k07_form_texts) (n := 63) (k := 8) (x := "script") (CX := TL.CXA (OpenLaw.row PySem.Challenge.rw_betweenkinds_k07_form_texts).prog) rfl (by decide) (by kernel_rfl) ⟨rfl, by decide, by decide⟩ ?F (fun _ _ _ _ z => TL.cxa_no z)
    intro w mg fa h Y G hmg0
    obtain ⟨K, KX, c⟩ := Y
    have hmg : mg ("law" : PySem.Str) = some (.ref fa) := by
      have e : (HandSHeadRun.topDef (OpenLaw.row PySem.Challenge.rw_betweenkinds_k07_form_texts).prog 67).name = ("law" : PySem.Str) := by kernel_rfl
      rw [← e]
      exact hmg0
    obtain ⟨fd, hb, hF⟩ := TL.Rd.facts (w := w) KX G hmg c
    exact ⟨K, fd, TL.spP K TL.Rd.g_law07.pf, KX, hb, fun H a ns hl _ hS => TL.law_sp hS fun K0 Z0 hk => ⟨ns, rfl, hk⟩, hF⟩
