import PyProof.Rows.All
import Wide.All
import OpenK.AllK
import Wide.FinOn
import HandS.ForMost
import HandS.Deep
import HandS.IsInst
import HandS.Style
import HandS.Conv
import HandS.Evl
import HandS.TupAny
import HandS.SortInts
import HandS.SetFor
import HandS.Codes
import HandS.ForExc
import HandS.NoneIn
import KE.KDictZip
import HandS.DictComp
import KE.KSortedM
import HandS.TupLen
import HandS.TupSets
import KE.KStateDown
import Lean
import HandS.Defaults
import HandS.Head0
import HandS.Head1
import HandS.Head2
import HandS.HeadEnd
import HandS.HeadHook1
import HandS.HeadHook2
import HandS.EndBits
import PySem.Challenge.RW_stickbodies_k01_whole_gathered
set_option Elab.async false
set_option linter.all false
set_option maxRecDepth 100000
namespace Sb
open PySem L2
open Evl (Ex Ex.refl Ex.trans Ex.new)
inductive T where
  | non | bl (b : Bool) | int (i : Int) | str (x : Str)
  | tup (ts : List T) | lst (ts : List T) | scr (ns : List Int)
  | dct (ks : List (List Int)) (ts : List T) | obj (c : Nat) (ts : List T) | unk | fdc (ks : List (List Int)) (ts : List T)
deriving Inhabited
def LIM : Nat := 1000000
theorem lim_line {n : Nat} (h : n ≤ LIM) : n ≤ sizeLine := Nat.le_trans h (by decide)
theorem lim_lt {n : Nat} (h : n < LIM) : n < sizeLine := Nat.lt_of_lt_of_le h (by decide)
theorem lim_lt' {n : Nat} (h : n ≤ LIM) : n < sizeLine := Nat.lt_of_le_of_lt h (by decide)
/-- a set of addresses -/
abbrev AS := Addr → Prop
def AS.but (S : AS) (a : Addr) : AS := fun b => S b ∧ b ≠ a
/-- the script's list, read only -/
def SqF (K : PySem.W.Frag) (H : Hp) (a : Addr) (xs : List V) : Prop :=
  (∃ o, H a = some (.frz o (.lst xs))) ∨ ∃ (o : Obj) (its : Array Value) (n : Nat), K.lookup a = some o ∧ o.cls = .type "list" ∧ o.dict = none ∧ o.data = .seq its n ∧ its.size ≤ sizeLine ∧ Vals xs its.toList
theorem SqF.l {K : PySem.W.Frag} {H : Hp} {a : Addr} {xs : List V} (h : SqF K H a xs) : SqL K H a xs := by
  rcases h with h | h
  · exact .inl (.inr h)
  · exact .inr h
section
variable (K : PySem.W.Frag) (CL : Nat → Addr × List Str)
mutual
def Rep (H : Hp) : T → AS → V → Prop
  | .non, _, v => v = .non
  | .bl b, _, v => v = .bl b
  | .int i, _, v => v = .int i
  | .str x, _, v => v = .str x
  | .tup ts, S, v => ∃ a vs, v = .ref a ∧ H a = some (.tup vs) ∧ ts.length ≤ LIM ∧ Reps H ts S vs
  | .lst ts, S, v => ∃ a vs, v = .ref a ∧ S a ∧ H a = some (.lst vs) ∧ ts.length ≤ LIM ∧ Reps H ts (S.but a) vs
  | .scr ns, _, v => ∃ a, v = .ref a ∧ SqF K H a (ns.map V.int) ∧ ns.length ≤ LIM
  | .dct ks ts, S, v => ∃ a kvs, v = .ref a ∧ S a ∧ H a = some (.dT kvs) ∧ ts.length ≤ LIM ∧ kvs.map (·.1) = ks.map (fun k => k.map Sum.inl) ∧ Reps H ts (S.but a) (kvs.map (·.2))
  | .obj c ts, S, v => ∃ a dx fs, v = .ref a ∧ S a ∧ H a = some (.ins (CL c).1 dx fs) ∧ fs.map (·.1) = (CL c).2 ∧ Reps H ts (S.but a) (fs.map (·.2))
  | .unk, _, _ => True
  | .fdc ks ts, S, v => ∃ a kvs o, v = .ref a ∧ H a = some (.frz o (.dT kvs)) ∧ ts.length ≤ LIM ∧ kvs.map (·.1) = ks.map (fun k => k.map Sum.inl) ∧ Reps H ts S (kvs.map (·.2))
def Reps (H : Hp) : List T → AS → List V → Prop
  | [], _, vs => vs = []
  | t :: ts, S, vs => ∃ v r, vs = v :: r ∧ Rep H t S v ∧ Reps H ts S r
end
end
mutual
def imm : T → Bool
  | .non => true | .bl _ => true | .int _ => true | .str _ => true
  | .tup ts => imms ts | .lst _ => false | .scr _ => true | .dct _ _ => false | .obj _ _ => false | .unk => false | .fdc _ _ => false
def imms : List T → Bool
  | [] => true
  | t :: ts => imm t && imms ts
end
/-- a list (or a dict, or an object) whose items are immutable, or itself immutable -/
def flat : T → Bool
  | .lst ts => imms ts
  | .dct _ ts => imms ts
  | .obj _ ts => imms ts
  | t => imm t
/-- the root may be written -/
def mutR : T → Bool
  | .lst _ => true | .dct _ _ => true | .obj _ _ => true | _ => false
def frzO : HO → Bool
  | .tup _ => true | .frz _ _ => true | _ => false
/-- what stands in S, and what never changes, is kept -/
def Keep (S : AS) (H H' : Hp) : Prop := ∀ a o, H a = some o → (S a ∨ frzO o = true) → H' a = some o
theorem Keep.of_ex {S : AS} {H H' : Hp} (e : Ex H H') : Keep S H H' := fun a o h _ => e a o h
theorem Keep.mono {S S' : AS} {H H' : Hp} (k : Keep S' H H') (h : ∀ a, S a → S' a) : Keep S H H' := fun a o e q => k a o e (q.imp (h a) id)
theorem Keep.trans {S : AS} {H H1 H2 : Hp} (a : Keep S H H1) (b : Keep S H1 H2) : Keep S H H2 := fun x o e q => b x o (a x o e q) q
section
variable {K : PySem.W.Frag} {CL : Nat → Addr × List Str} {H H' : Hp}
theorem sqt_keep {S : AS} {a : Addr} {vs : List V} (k : Keep S H H') (h : SqT K H a vs) : SqT K H' a vs := by
  rcases h with (h | ⟨o, h⟩) | h
  · exact .inl (.inl (k _ _ h (.inr rfl)))
  · exact .inl (.inr ⟨o, k _ _ h (.inr rfl)⟩)
  · exact .inr h
theorem sqf_keep {S : AS} {a : Addr} {vs : List V} (k : Keep S H H') (h : SqF K H a vs) : SqF K H' a vs := by
  rcases h with ⟨o, h⟩ | h
  · exact .inl ⟨o, k _ _ h (.inr rfl)⟩
  · exact .inr h
theorem but_mono {S S' : AS} {a : Addr} (h : ∀ b, S b → S' b) : ∀ b, S.but a b → S'.but a b := fun b q => ⟨h b q.1, q.2⟩
mutual
/-- the frame: a tree stays, if its set is kept; and the set may grow -/
theorem Rep.keep : ∀ {t : T} {S S' : AS} {v : V}, Keep S H H' → (∀ a, S a → S' a) → Rep K CL H t S v → Rep K CL H' t S' v
  | .non, _, _, _, _, _, h => h
  | .bl _, _, _, _, _, _, h => h
  | .int _, _, _, _, _, _, h => h
  | .str _, _, _, _, _, _, h => h
  | .tup ts, S, S', v, k, m, h => by
    obtain ⟨a, vs, e, h1, h2, h3⟩ := h
    exact ⟨a, vs, e, k _ _ h1 (.inr rfl), h2, Reps.keep k m h3⟩
  | .lst ts, S, S', v, k, m, h => by
    obtain ⟨a, vs, e, h0, h1, h2, h3⟩ := h
    exact ⟨a, vs, e, m a h0, k a _ h1 (.inl h0), h2, Reps.keep (k.mono fun _ q => q.1) (but_mono m) h3⟩
  | .scr ns, S, S', v, k, m, h => by
    obtain ⟨a, e, h1, h2⟩ := h
    exact ⟨a, e, sqf_keep k h1, h2⟩
  | .dct ks ts, S, S', v, k, m, h => by
    obtain ⟨a, kvs, e, h0, h1, h2, h3, h4⟩ := h
    exact ⟨a, kvs, e, m a h0, k a _ h1 (.inl h0), h2, h3, Reps.keep (k.mono fun _ q => q.1) (but_mono m) h4⟩
  | .obj c ts, S, S', v, k, m, h => by
    obtain ⟨a, dx, fs, e, h0, h1, h3, h4⟩ := h
    exact ⟨a, dx, fs, e, m a h0, k a _ h1 (.inl h0), h3, Reps.keep (k.mono fun _ q => q.1) (but_mono m) h4⟩
  | .unk, _, _, _, _, _, _ => trivial
  | .fdc ks ts, S, S', v, k, m, h => by
    obtain ⟨a, kvs, o, e, h1, h2, h3, h4⟩ := h
    exact ⟨a, kvs, o, e, k _ _ h1 (.inr rfl), h2, h3, Reps.keep k m h4⟩
theorem Reps.keep : ∀ {ts : List T} {S S' : AS} {vs : List V}, Keep S H H' → (∀ a, S a → S' a) → Reps K CL H ts S vs → Reps K CL H' ts S' vs
  | [], _, _, _, _, _, h => h
  | t :: ts, S, S', vs, k, m, h => by
    obtain ⟨v, r, e, h1, h2⟩ := h
    exact ⟨v, r, e, Rep.keep k m h1, Reps.keep k m h2⟩
end
theorem keep_refl {S : AS} : Keep S H H := fun _ _ e _ => e
theorem Rep.mono {t : T} {S S' : AS} {v : V} (h : Rep K CL H t S v) (m : ∀ a, S a → S' a) : Rep K CL H t S' v := Rep.keep keep_refl m h
theorem Rep.ex {t : T} {S : AS} {v : V} (h : Rep K CL H t S v) (e : Ex H H') : Rep K CL H' t S v := Rep.keep (.of_ex e) (fun _ q => q) h
theorem Reps.mono {t : List T} {S S' : AS} {v : List V} (h : Reps K CL H t S v) (m : ∀ a, S a → S' a) : Reps K CL H t S' v := Reps.keep keep_refl m h
theorem Reps.ex {t : List T} {S : AS} {v : List V} (h : Reps K CL H t S v) (e : Ex H H') : Reps K CL H' t S v := Reps.keep (.of_ex e) (fun _ q => q) h
mutual
/-- only what stands in the heap is in a tree -/
theorem Rep.alloc : ∀ {t : T} {S : AS} {v : V}, Rep K CL H t S v → Rep K CL H t (fun a => S a ∧ H a ≠ none) v
  | .non, _, _, h => h
  | .bl _, _, _, h => h
  | .int _, _, _, h => h
  | .str _, _, _, h => h
  | .tup ts, S, v, h => by
    obtain ⟨a, vs, e, h1, h2, h3⟩ := h
    exact ⟨a, vs, e, h1, h2, Reps.alloc h3⟩
  | .lst ts, S, v, h => by
    obtain ⟨a, vs, e, h0, h1, h2, h3⟩ := h
    exact ⟨a, vs, e, ⟨h0, by rw [h1]; simp⟩, h1, h2, (Reps.alloc h3).mono fun b q => ⟨⟨q.1.1, q.2⟩, q.1.2⟩⟩
  | .scr ns, S, v, h => h
  | .dct ks ts, S, v, h => by
    obtain ⟨a, kvs, e, h0, h1, h2, h3, h4⟩ := h
    exact ⟨a, kvs, e, ⟨h0, by rw [h1]; simp⟩, h1, h2, h3, (Reps.alloc h4).mono fun b q => ⟨⟨q.1.1, q.2⟩, q.1.2⟩⟩
  | .obj c ts, S, v, h => by
    obtain ⟨a, dx, fs, e, h0, h1, h3, h4⟩ := h
    exact ⟨a, dx, fs, e, ⟨h0, by rw [h1]; simp⟩, h1, h3, (Reps.alloc h4).mono fun b q => ⟨⟨q.1.1, q.2⟩, q.1.2⟩⟩
  | .unk, _, _, _ => trivial
  | .fdc ks ts, S, v, h => by
    obtain ⟨a, kvs, o, e, h1, h2, h3, h4⟩ := h
    exact ⟨a, kvs, o, e, h1, h2, h3, Reps.alloc h4⟩
theorem Reps.alloc : ∀ {ts : List T} {S : AS} {vs : List V}, Reps K CL H ts S vs → Reps K CL H ts (fun a => S a ∧ H a ≠ none) vs
  | [], _, _, h => h
  | t :: ts, S, vs, h => by
    obtain ⟨v, r, e, h1, h2⟩ := h
    exact ⟨v, r, e, Rep.alloc h1, Reps.alloc h2⟩
end
mutual
/-- an immutable tree needs no set -/
theorem Rep.imm : ∀ {t : T} {S S' : AS} {v : V}, Sb.imm t = true → Rep K CL H t S v → Rep K CL H t S' v
  | .non, _, _, _, _, h => h
  | .bl _, _, _, _, _, h => h
  | .int _, _, _, _, _, h => h
  | .str _, _, _, _, _, h => h
  | .tup ts, S, S', v, q, h => by
    obtain ⟨a, vs, e, h1, h2, h3⟩ := h
    exact ⟨a, vs, e, h1, h2, Reps.imm q h3⟩
  | .lst ts, _, _, _, q, _ => by cases q
  | .scr ns, S, S', v, q, h => h
  | .dct _ _, _, _, _, q, _ => by cases q
  | .obj _ _, _, _, _, q, _ => by cases q
  | .unk, _, _, _, q, _ => by cases q
  | .fdc _ _, _, _, _, q, _ => by cases q
theorem Reps.imm : ∀ {ts : List T} {S S' : AS} {vs : List V}, Sb.imms ts = true → Reps K CL H ts S vs → Reps K CL H ts S' vs
  | [], _, _, _, _, h => h
  | t :: ts, S, S', vs, q, h => by
    obtain ⟨v, r, e, h1, h2⟩ := h
    have q' : (Sb.imm t && Sb.imms ts) = true := q
    rw [Bool.and_eq_true] at q'
    exact ⟨v, r, e, Rep.imm q'.1 h1, Reps.imm q'.2 h2⟩
end
theorem Reps.len : ∀ {ts : List T} {S : AS} {vs : List V}, Reps K CL H ts S vs → vs.length = ts.length
  | [], _, _, h => by cases h; rfl
  | t :: ts, _, _, ⟨v, r, e, _, h⟩ => by subst e; simp [Reps.len h]
theorem Reps.get : ∀ {ts : List T} {S : AS} {vs : List V} {i : Nat} {t : T}, Reps K CL H ts S vs → ts[i]? = some t → ∃ v, vs[i]? = some v ∧ Rep K CL H t S v
  | [], _, _, _, _, _, h => by simp at h
  | t :: ts, _, _, 0, u, ⟨v, r, e, h1, _⟩, q => by subst e; simp at q; subst q; exact ⟨v, rfl, h1⟩
  | t :: ts, _, _, i + 1, u, ⟨v, r, e, _, h⟩, q => by
    subst e
    obtain ⟨w, h1, h2⟩ := Reps.get (i := i) (t := u) h (by simpa using q)
    exact ⟨w, by simpa using h1, h2⟩
theorem Reps.getV : ∀ {ts : List T} {S : AS} {vs : List V} {i : Nat} {v : V}, Reps K CL H ts S vs → vs[i]? = some v → ∃ t, ts[i]? = some t ∧ Rep K CL H t S v := fun {ts S vs i v} h q => by
  have hl := h.len
  obtain ⟨hi, _⟩ := List.getElem?_eq_some_iff.mp q
  have hi' : i < ts.length := by omega
  obtain ⟨w, h1, h2⟩ := Reps.get h (List.getElem?_eq_getElem hi')
  rw [q] at h1; cases h1
  exact ⟨_, List.getElem?_eq_getElem hi', h2⟩
theorem Reps.append : ∀ {ts us : List T} {S : AS} {vs ws : List V}, Reps K CL H ts S vs → Reps K CL H us S ws → Reps K CL H (ts ++ us) S (vs ++ ws)
  | [], _, _, _, _, h, h' => by cases h; exact h'
  | t :: ts, _, _, _, _, ⟨v, r, e, h1, h⟩, h' => by subst e; exact ⟨v, r ++ _, rfl, h1, Reps.append h h'⟩
theorem Reps.one {t : T} {S : AS} {v : V} (h : Rep K CL H t S v) : Reps K CL H [t] S [v] := ⟨v, [], rfl, h, rfl⟩
theorem Reps.cons {t : T} {ts : List T} {S : AS} {v : V} {vs : List V} (h : Rep K CL H t S v) (h' : Reps K CL H ts S vs) : Reps K CL H (t :: ts) S (v :: vs) := ⟨v, vs, rfl, h, h'⟩
theorem Reps.nil {S : AS} : Reps K CL H [] S [] := rfl
theorem Reps.take : ∀ {ts : List T} {S : AS} {vs : List V} (n : Nat), Reps K CL H ts S vs → Reps K CL H (ts.take n) S (vs.take n)
  | _, _, _, 0, _ => by simp [Reps]
  | [], _, _, n + 1, h => by cases h; exact rfl
  | t :: ts, _, _, n + 1, ⟨v, r, e, h1, h⟩ => by subst e; exact ⟨v, _, rfl, h1, Reps.take n h⟩
theorem Reps.drop : ∀ {ts : List T} {S : AS} {vs : List V} (n : Nat), Reps K CL H ts S vs → Reps K CL H (ts.drop n) S (vs.drop n)
  | _, _, _, 0, h => by simpa using h
  | [], _, _, n + 1, h => by cases h; exact rfl
  | t :: ts, _, _, n + 1, ⟨v, r, e, h1, h⟩ => by subst e; simpa using Reps.drop n h
theorem Reps.rev : ∀ {ts : List T} {S : AS} {vs : List V}, Reps K CL H ts S vs → Reps K CL H ts.reverse S vs.reverse
  | [], _, _, h => by cases h; exact rfl
  | t :: ts, _, _, ⟨v, r, e, h1, h⟩ => by
    subst e
    rw [List.reverse_cons, List.reverse_cons]
    exact Reps.append (Reps.rev h) (Reps.one h1)
theorem Reps.set : ∀ {ts : List T} {S : AS} {vs : List V} {t : T} {v : V} (n : Nat), Reps K CL H ts S vs → Rep K CL H t S v → Reps K CL H (ts.set n t) S (vs.set n v)
  | [], _, _, _, _, n, h, _ => by cases h; exact rfl
  | t :: ts, _, _, _, _, 0, ⟨v, r, e, h1, h⟩, h' => by subst e; exact ⟨_, _, rfl, h', h⟩
  | t :: ts, _, _, _, _, n + 1, ⟨v, r, e, h1, h⟩, h' => by subst e; exact ⟨v, _, rfl, h1, Reps.set n h h'⟩
/-- ints, truths -/
theorem Reps.ints : ∀ {ns : List Int} {S : AS} {vs : List V}, Reps K CL H (ns.map T.int) S vs → vs = ns.map V.int
  | [], _, _, h => by cases h; rfl
  | n :: ns, _, _, ⟨v, r, e, h1, h⟩ => by
    have h1' : v = .int n := h1
    rw [e, h1', Reps.ints h]; rfl
theorem Reps.of_ints : ∀ {ns : List Int} {S : AS}, Reps K CL H (ns.map T.int) S (ns.map V.int)
  | [], _ => rfl
  | n :: ns, _ => ⟨_, _, rfl, rfl, Reps.of_ints⟩
theorem Reps.bls : ∀ {ns : List Bool} {S : AS} {vs : List V}, Reps K CL H (ns.map T.bl) S vs → vs = ns.map V.bl
  | [], _, _, h => by cases h; rfl
  | n :: ns, _, _, ⟨v, r, e, h1, h⟩ => by
    have h1' : v = .bl n := h1
    rw [e, h1', Reps.bls h]; rfl
theorem imms_get : ∀ {ts : List T} {i : Nat} {t : T}, imms ts = true → ts[i]? = some t → imm t = true
  | [], _, _, _, h => by simp at h
  | t :: ts, 0, u, q, h => by
    have q' : (Sb.imm t && Sb.imms ts) = true := q
    rw [Bool.and_eq_true] at q'
    simp at h; subst h; exact q'.1
  | t :: ts, i + 1, u, q, h => by
    have q' : (Sb.imm t && Sb.imms ts) = true := q
    rw [Bool.and_eq_true] at q'
    exact imms_get (i := i) q'.2 (by simpa using h)
mutual
/-- whether a frozen dict is in a tree -/
def hasF : T → Bool
  | .fdc _ _ => true
  | .tup ts => hasFs ts | .lst ts => hasFs ts | .dct _ ts => hasFs ts | .obj _ ts => hasFs ts
  | _ => false
def hasFs : List T → Bool
  | [] => false
  | t :: ts => hasF t || hasFs ts
end
mutual
/-- a frozen dict that is in no tree may be let go -/
theorem Rep.unfrz {d : Addr} {od : Obj} {kv0 : List (List Key × V)} {u : HO} (hd : H d = some (.frz od (.dT kv0))) : ∀ {t : T} {S : AS} {v : V}, hasF t = false → Rep K CL H t S v → Rep K CL (upd H d u) t S v
  | .non, _, _, _, h => h
  | .bl _, _, _, _, h => h
  | .int _, _, _, _, h => h
  | .str _, _, _, _, h => h
  | .tup ts, S, v, q, h => by
    obtain ⟨a, vs, e, h1, h2, h3⟩ := h
    have hn : a ≠ d := fun z => by rw [z, hd] at h1; cases h1
    exact ⟨a, vs, e, by rw [upd_ne hn]; exact h1, h2, Reps.unfrz hd q h3⟩
  | .lst ts, S, v, q, h => by
    obtain ⟨a, vs, e, h0, h1, h2, h3⟩ := h
    have hn : a ≠ d := fun z => by rw [z, hd] at h1; cases h1
    exact ⟨a, vs, e, h0, by rw [upd_ne hn]; exact h1, h2, Reps.unfrz hd q h3⟩
  | .scr ns, S, v, q, h => by
    obtain ⟨a, e, h1, h2⟩ := h
    refine ⟨a, e, ?_, h2⟩
    rcases h1 with ⟨o, h1⟩ | h1
    · have hn : a ≠ d := fun z => by rw [z, hd] at h1; cases h1
      exact .inl ⟨o, by rw [upd_ne hn]; exact h1⟩
    · exact .inr h1
  | .dct ks ts, S, v, q, h => by
    obtain ⟨a, kvs, e, h0, h1, h2, h3, h4⟩ := h
    have hn : a ≠ d := fun z => by rw [z, hd] at h1; cases h1
    exact ⟨a, kvs, e, h0, by rw [upd_ne hn]; exact h1, h2, h3, Reps.unfrz hd q h4⟩
  | .obj c ts, S, v, q, h => by
    obtain ⟨a, dx, fs, e, h0, h1, h3, h4⟩ := h
    have hn : a ≠ d := fun z => by rw [z, hd] at h1; cases h1
    exact ⟨a, dx, fs, e, h0, by rw [upd_ne hn]; exact h1, h3, Reps.unfrz hd q h4⟩
  | .unk, _, _, _, _ => trivial
  | .fdc _ _, _, _, q, _ => by cases q
theorem Reps.unfrz {d : Addr} {od : Obj} {kv0 : List (List Key × V)} {u : HO} (hd : H d = some (.frz od (.dT kv0))) : ∀ {ts : List T} {S : AS} {vs : List V}, hasFs ts = false → Reps K CL H ts S vs → Reps K CL (upd H d u) ts S vs
  | [], _, _, _, h => h
  | t :: ts, S, vs, q, h => by
    obtain ⟨v, r, e, h1, h2⟩ := h
    have q' : (hasF t || hasFs ts) = false := q
    rw [Bool.or_eq_false_iff] at q'
    exact ⟨v, r, e, Rep.unfrz hd q'.1 h1, Reps.unfrz hd q'.2 h2⟩
end
end
end Sb
namespace Sb
open PySem L2
mutual
def toD : T → PyData
  | .non => .none | .bl b => .bool b | .int i => .int i | .str x => .str x
  | .tup ts => .tuple (toDs ts) | .lst ts => .list (toDs ts) | .scr ns => .list (ns.map .int)
  | .dct _ _ => .dict [] | .obj _ _ => .dict [] | .unk => .none | .fdc _ _ => .dict []
def toDs : List T → List PyData
  | [] => []
  | t :: ts => toD t :: toDs ts
end
mutual
def dat : Nat → T → Bool
  | _, .non => true | _, .bl _ => true | _, .int _ => true | _, .str x => PyData.strOk x
  | n + 1, .tup ts => dats n ts | n + 1, .lst ts => dats n ts | _ + 1, .scr _ => true
  | _, _ => false
def dats : Nat → List T → Bool
  | _, [] => true
  | n, t :: ts => dat n t && dats n ts
end
def teq (a b : T) : Bool := PyData.eqv (toD a) (toD b)
def cutL {α : Type} (xs : List α) (lo hi : Option Int) : List α := (xs.drop (HT.sIx xs.length 0 lo)).take (HT.sIx xs.length xs.length hi - HT.sIx xs.length 0 lo)
def asInts : List T → Option (List Int)
  | [] => some []
  | .int i :: r => (asInts r).map (i :: ·)
  | _ => none
def asBls : List T → Option (List Bool)
  | [] => some []
  | .bl i :: r => (asBls r).map (i :: ·)
  | _ => none
/-- the place of a key, what stands there -/
def dGet : List (List Int) → List T → List Int → Option T
  | k :: ks, t :: ts, x => if k = x then some t else dGet ks ts x
  | _, _, _ => none
def dRep : List (List Int) → List T → List Int → T → List T
  | k :: ks, t :: ts, x, u => (if k = x then u else t) :: dRep ks ts x u
  | _, _, _, _ => []
def dPut (ks : List (List Int)) (ts : List T) (x : List Int) (u : T) : List (List Int) × List T :=
  if ks.any (fun k => decide (k = x)) then (ks, dRep ks ts x u) else (ks ++ [x], ts ++ [u])
def mulOk (i j : Int) : Bool := decide (i.natAbs.log2 + j.natAbs.log2 < 100000000)
def bigN : Nat := 4000000000000000000
inductive Bop | add | sub | mul | fdiv | mod | pow | shr
deriving DecidableEq
inductive Cop | eq | ne | lt | le | gt | ge | mem | nmem | is_ | isnot
deriving DecidableEq
inductive Bi | len | sum | all | any | abs | max | min | int | list | tuple | sorted | lrange | dict
deriving DecidableEq
inductive Kd | int | bool | tuple | list | str | cls (c : Nat) (acc rej : List Nat)
deriving DecidableEq
inductive Tg | nm (i : Nat) | tp (is : List Nat)
deriving DecidableEq
def binT : Bop → T → T → Option T
  | .add, .int i, .int j => some (.int (i + j))
  | .add, .lst a, .lst b => if a.length + b.length ≤ LIM then some (.lst (a ++ b)) else none
  | .add, .tup a, .tup b => if a.length + b.length ≤ LIM then some (.tup (a ++ b)) else none
  | .sub, .int i, .int j => some (.int (i - j))
  | .mul, .int i, .int j => if mulOk i j then some (.int (i * j)) else none
  | .mul, .lst a, .int k => if 0 ≤ k ∧ k < 1000000 ∧ a.length * k.toNat ≤ LIM then some (.lst (List.replicate k.toNat a).flatten) else none
  | .fdiv, .int i, .int j => if 0 < j ∧ j.natAbs.log2 < 9000 then some (.int (i / j)) else none
  | .mod, .int i, .int j => if 0 < j then some (.int (i % j)) else none
  | .pow, .int i, .int j => if 0 ≤ j ∧ j ≤ 1000000 ∧ i.natAbs < 2 ^ 64 then some (.int (i ^ j.toNat)) else none
  | .shr, .int i, .int j => if 0 ≤ j then some (.int (i / 2 ^ j.toNat)) else none
  | _, _, _ => none
def memT (a : T) : T → Option Bool
  | .lst ts => if dat 60 a && dats 60 ts then some (ts.any fun z => teq z a) else none
  | .tup ts => match a, asInts ts with
    | .int i, some ns => some (ns.any fun z => z == i)
    | _, _ => none
  | .dct ks ts => match a with
    | .tup us => (asInts us).map fun k => (dGet ks ts k).isSome
    | _ => none
  | _ => none
def cmpT : Cop → T → T → Option T
  | .eq, a, b => if dat 60 a && dat 60 b then some (.bl (teq a b)) else none
  | .ne, a, b => if dat 60 a && dat 60 b then some (.bl (!teq a b)) else none
  | .lt, .int i, .int j => some (.bl (decide (i < j)))
  | .le, .int i, .int j => some (.bl (decide (i ≤ j)))
  | .gt, .int i, .int j => some (.bl (decide (j < i)))
  | .ge, .int i, .int j => some (.bl (decide (j ≤ i)))
  | .mem, a, b => (memT a b).map .bl
  | .nmem, a, b => (memT a b).map fun c => .bl (!c)
  | .is_, a, .non => match a with
    | .non => some (.bl true)
    | .unk => none
    | _ => some (.bl false)
  | .isnot, a, .non => match a with
    | .non => some (.bl false)
    | .unk => none
    | _ => some (.bl true)
  | .is_, .bl a, .bl b => some (.bl (decide (a = b)))
  | .isnot, .bl a, .bl b => some (.bl (!decide (a = b)))
  | _, _, _ => none
def subT : T → T → Option T
  | .lst ts, .int i => atI ts i
  | .tup ts, .int i => atI ts i
  | .dct ks ts, .tup us => (asInts us).bind fun k => dGet ks ts k
  | .fdc ks ts, .tup us => (asInts us).bind fun k => dGet ks ts k
  | _, _ => none
def cutT : T → Option Int → Option Int → Option T
  | .lst ts, lo, hi => some (.lst (cutL ts lo hi))
  | .scr ns, lo, hi => some (.lst ((cutL ns lo hi).map .int))
  | .tup ts, lo, hi => some (.tup (cutL ts lo hi))
  | _, _, _ => none
/-- each k-th one -/
def stpL {α : Type} (l : List α) (k : Int) : List α := (PySem.sliceRange (PySem.sliceBounds none none (some k) l.length).1 (PySem.sliceBounds none none (some k) l.length).2.1 (PySem.sliceBounds none none (some k) l.length).2.2).filterMap fun x => l[x]?
def asTups : List T → Option (List (List Int))
  | [] => some []
  | .tup ts :: r => (asInts ts).bind fun k => (asTups r).map (k :: ·)
  | _ => none
/-- sorted(set(..)) of tuples -/
def insK (x : List Int) : List (List Int) → List (List Int)
  | [] => [x]
  | k :: r => if TS.code 64 x < TS.code 64 k then x :: k :: r else if x = k then k :: r else k :: insK x r
def sstL (ks : List (List Int)) : List (List Int) := ks.foldr insK []
def sstOk (ks r : List (List Int)) : Bool := decide (ks.length < 64 ∧ r.length < 64) && r.all (fun k => ks.contains k) && ks.all (fun k => r.contains k) && decide (r.Pairwise fun a b => TS.code 64 a < TS.code 64 b) && ks.all (fun k => decide (k.length = (ks.headD []).length) && k.all fun i => decide (0 ≤ i) && decide (i < 64))
def sstT : T → Option T
  | .lst ts => (asTups ts).bind fun ks => if sstOk ks (sstL ks) then some (.lst ((sstL ks).map fun k => .tup (k.map .int))) else none
  | _ => none
def stpT : T → T → Option T
  | .lst ts, .int i => if i ≠ 0 ∧ (stpL ts i).length ≤ LIM then some (.lst (stpL ts i)) else none
  | _, _ => none
def revT : T → Option T
  | .lst ts => some (.lst ts.reverse)
  | .scr ns => some (.lst (ns.reverse.map .int))
  | _ => none
def isiT : Kd → T → Option Bool
  | .cls _ acc rej, .obj d _ => if acc.contains d then some true else if rej.contains d then some false else none
  | .cls _ _ _, _ => none
  | _, .obj _ _ => none
  | _, .dct _ _ => none
  | _, .unk => none
  | _, .fdc _ _ => none
  | .int, .int _ => some true | .int, .bl _ => some true
  | .bool, .bl _ => some true | .tuple, .tup _ => some true | .list, .lst _ => some true | .list, .scr _ => some true | .str, .str _ => some true
  | _, _ => some false
def insSort (i : Int) : List Int → List Int
  | [] => [i]
  | j :: r => if i ≤ j then i :: j :: r else j :: insSort i r
def sortI (ns : List Int) : List Int := ns.foldr insSort []
/-- pairs of a key and a value, laid into a dict one by one -/
def dPairs : List T → List (List Int) × List T → Option (List (List Int) × List T)
  | [], d => some d
  | .tup [.tup us, v] :: r, d => (asInts us).bind fun k => dPairs r (dPut d.1 d.2 k v)
  | _, _ => none
def bltT : Bi → List T → Option T
  | .len, [.lst ts] => some (.int ts.length)
  | .len, [.tup ts] => some (.int ts.length)
  | .len, [.scr ns] => some (.int ns.length)
  | .len, [.dct ks _] => some (.int ks.length)
  | .sum, [.lst ts] => (asInts ts).map fun ns => .int ns.sum
  | .all, [.lst ts] => (asBls ts).map fun bs => .bl (bs.all id)
  | .any, [.lst ts] => (asBls ts).map fun bs => .bl (bs.any id)
  | .abs, [.int i] => some (.int (if i < 0 then -i else i))
  | .max, [.int i, .int j] => some (.int (if j > i then j else i))
  | .min, [.int i, .int j] => some (.int (if j < i then j else i))
  | .max, [.lst ts] => (asInts ts).bind fun ns => ns.max?.map .int
  | .min, [.lst ts] => (asInts ts).bind fun ns => ns.min?.map .int
  | .int, [.int i] => some (.int i)
  | .int, [.bl b] => some (.int (if b then 1 else 0))
  | .list, [.lst ts] => some (.lst ts)
  | .list, [.tup ts] => some (.lst ts)
  | .list, [.scr ns] => some (.lst (ns.map .int))
  | .tuple, [.lst ts] => some (.tup ts)
  | .tuple, [.tup ts] => some (.tup ts)
  | .sorted, [.lst ts] => (asInts ts).map fun ns => .lst ((sortI ns).map .int)
  | .lrange, [.int n] => if 0 ≤ n ∧ n ≤ (LIM : Nat) then some (.lst ((List.range n.toNat).map fun (i : Nat) => .int i)) else none
  | .dict, [.lst ts] => (dPairs ts ([], [])).map fun d => .dct d.1 d.2
  | _, _ => none
/-- the first place of an equal one; how many are so; a field -/
def idxT : T → T → Option T
  | .lst ts, y => if dat 60 y && dats 60 ts then (ts.findIdx? fun z => teq z y).map fun (j : Nat) => .int (j : Int) else none
  | _, _ => none
def cntT : T → T → Option T
  | .lst ts, .int i => (asInts ts).map fun ns => .int ((ns.count i : Nat) : Int)
  | _, _ => none
def fldT (c : Nat) : T → Option T
  | .obj d [t] => if d = c then some t else none
  | _ => none
def tgSlots : Tg → List Nat
  | .nm i => [i]
  | .tp is => is
abbrev Env := List (Option T)
/-- what a call ends in: a value, or an error of a class -/
inductive R where
  | val (t : T) | exc (c : Nat) | wkv (t : T)
def R.ok : R → Option T
  | .val t => some t
  | .exc _ => none
  | .wkv _ => none
/-- what may be the caller's own thing: it can be compared, and nothing else -/
def R.wk : R → Option T
  | .wkv t => some t
  | _ => none
def R.st : R → Option R
  | .wkv _ => none
  | .val t => some (.val t)
  | .exc c => some (.exc c)
mutual
inductive E where
  | var (i : Nat) | cint (i : Int) | cbl (b : Bool) | cnon | cstr (s : String) | glob (g : Nat)
  | bin (op : Bop) (a b : E) | neg (a : E) | not (a : E) | and (a b : E) | or (a b : E)
  | cmp (op : Cop) (a b : E) | chn (op op' : Cop) (a b c : E) | ite (c a b : E)
  | tup (es : EL) | lst (es : EL) | sub (a i : E) | cut (a : E) (lo hi : EO) | rev (a : E)
  | call (f : Nat) (es : EL) | blt (b : Bi) (es : EL) | lrg (a : E) | isi (a : E) (k : Kd)
  | lc (vs : List Nat) (tg : Tg) (it : It) (c : EO) (e : E)
  | lzp (a b : E) | dsp (k v : E)
  | dnew | idx (a b : E) | cnt (a b : E) | mk (c : Nat) (es : EL) | fld (a : E) (c : Nat) | shw (a : E) (es : EL) | cmw (op : Cop) (f : Nat) (es : EL) (b : E) | stp (a k : E) | sst (a : E) | csb (f : Nat) (es : EL) (k : Int)
inductive EL where
  | nil | cons (e : E) (es : EL)
inductive EO where
  | no | so (e : E)
inductive It where
  | seq (e : E) | rng1 (e : E) | rng2 (a b : E) | enm (e : E) | zip (a b : E)
end
def setAll : List Nat → List T → Env → Env
  | i :: is, t :: ts, env => setAll is ts (env.set i (some t))
  | _, _, env => env
def bindT : Tg → T → Env → Option Env
  | .nm i, t, env => some (env.set i (some t))
  | .tp is, .tup ts, env => if ts.length = is.length then some (setAll is ts env) else none
  | .tp is, .lst ts, env => if ts.length = is.length then some (setAll is ts env) else none
  | _, _, _ => none
def wipeE (env : Env) : List Nat → Env
  | [] => env
  | v :: vs => (wipeE env vs).set v none
def seqT : T → Option (List T)
  | .lst ts => some ts
  | .tup ts => some ts
  | .scr ns => some (ns.map .int)
  | .fdc ks _ => if ks.all (fun k => decide (k.length ≤ 100)) then some (ks.map fun k => .tup (k.map .int)) else none
  | _ => none
def enumT : Nat → List T → List T
  | _, [] => []
  | n, t :: ts => .tup [.int n, t] :: enumT (n + 1) ts
def zipT : List T → List T → List T
  | a :: as, b :: bs => .tup [a, b] :: zipT as bs
  | _, _ => []
def rngT (lo hi : Int) : List T := (List.range (hi - lo).toNat).map fun (i : Nat) => .int (lo + (i : Int))
def rngOk (lo hi : Int) : Bool := decide (-1000000 ≤ lo ∧ lo ≤ 1000000 ∧ -1000000 ≤ hi ∧ hi ≤ 1000000 ∧ (hi - lo).toNat ≤ LIM)
def isB : T → Option T
  | .bl c => some (.bl c)
  | _ => none
/-- a comprehension's loop -/
def lcL (b : T → Option Env) (c : Env → Option T) (e : Env → Option T) : List T → Option (List T)
  | [] => some []
  | t :: ts => (b t).bind fun env => (c env).bind fun q => match q with
    | .bl true => (e env).bind fun u => (lcL b c e ts).map (u :: ·)
    | .bl false => lcL b c e ts
    | _ => none
def lzpT : T → T → Option T
  | .lst ts, .lst us => some (.lst (zipT ts us))
  | _, _ => none
def dspT : T → T → Option T
  | .tup us, v => (asInts us).map fun k => .dct [k] [v]
  | _, _ => none
section
variable (gv : Nat → Option Int) (Φ : Nat → List T → Option R)
mutual
def ev : E → Env → Option T
  | .var i, env => (env[i]?).join
  | .cint i, _ => some (.int i)
  | .cbl b, _ => some (.bl b)
  | .cnon, _ => some .non
  | .cstr s, _ => some (.str s)
  | .glob g, _ => (gv g).map .int
  | .bin op a b, env => (ev a env).bind fun x => (ev b env).bind fun y => binT op x y
  | .neg a, env => (ev a env).bind fun x => match x with
    | .int i => some (.int (-i))
    | _ => none
  | .not a, env => (ev a env).bind fun x => match x with
    | .bl b => some (.bl (!b))
    | _ => none
  | .and a b, env => (ev a env).bind fun x => match x with
    | .bl true => (ev b env).bind isB
    | .bl false => some (.bl false)
    | _ => none
  | .or a b, env => (ev a env).bind fun x => match x with
    | .bl true => some (.bl true)
    | .bl false => (ev b env).bind isB
    | _ => none
  | .cmp op a b, env => (ev a env).bind fun x => (ev b env).bind fun y => cmpT op x y
  | .chn op op' a b c, env => (ev a env).bind fun x => (ev b env).bind fun y => (cmpT op x y).bind fun q => match q with
    | .bl true => (ev c env).bind fun z => cmpT op' y z
    | .bl false => some (.bl false)
    | _ => none
  | .ite c a b, env => (ev c env).bind fun x => match x with
    | .bl true => ev a env
    | .bl false => ev b env
    | _ => none
  | .tup es, env => (evs es env).bind fun ts => if ts.length ≤ LIM then some (.tup ts) else none
  | .lst es, env => (evs es env).bind fun ts => if ts.length ≤ LIM then some (.lst ts) else none
  | .sub a i, env => (ev a env).bind fun x => (ev i env).bind fun y => subT x y
  | .cut a lo hi, env => (ev a env).bind fun x => (evo lo env).bind fun l => (evo hi env).bind fun h => cutT x l h
  | .rev a, env => (ev a env).bind revT
  | .call f es, env => (evs es env).bind fun ts => (Φ f ts).bind R.ok
  | .blt b es, env => (evs es env).bind fun ts => bltT b ts
  | .lrg a, env => (ev a env).bind fun x => bltT .lrange [x]
  | .isi a k, env => (ev a env).bind fun x => (isiT k x).map .bl
  | .lzp a b, env => (ev a env).bind fun x => (ev b env).bind fun y => lzpT x y
  | .dsp k v, env => (ev k env).bind fun x => (ev v env).bind fun y => dspT x y
  | .dnew, _ => some (.dct [] [])
  | .idx a b, env => (ev a env).bind fun x => (ev b env).bind fun y => idxT x y
  | .cnt a b, env => (ev a env).bind fun x => (ev b env).bind fun y => cntT x y
  | .mk c es, env => (evs es env).bind fun ts => (Φ (10000 + c) ts).bind R.ok
  | .fld a c, env => (ev a env).bind fun x => fldT c x
  | .shw a es, env => (ev a env).bind fun x => (evs es env).bind fun ts => match x with
    | .obj c us => (Φ (20000 + c) (.obj c us :: ts)).bind R.ok
    | _ => none
  | .cmw op f es b, env => ((evs es env).bind fun ts => (Φ f ts).bind R.wk).bind fun x => (ev b env).bind fun y => cmpT op x y
  | .csb f es k, env => ((evs es env).bind fun ts => (Φ f ts).bind R.ok).bind fun x => match x with
    | .tup ts => atI ts k
    | _ => none
  | .sst a, env => (ev a env).bind sstT
  | .stp a k, env => (ev a env).bind fun x => (ev k env).bind fun y => stpT x y
  | .lc vs tg it c e, env => (evi it env).bind fun ts => (lcL (fun t => bindT tg t (wipeE env vs)) (fun env' => evc c env') (fun env' => ev e env') ts).map .lst
def evs : EL → Env → Option (List T)
  | .nil, _ => some []
  | .cons e es, env => (ev e env).bind fun t => (evs es env).map (t :: ·)
def evo : EO → Env → Option (Option Int)
  | .no, _ => some none
  | .so e, env => (ev e env).bind fun x => match x with
    | .int i => some (some i)
    | _ => none
def evc : EO → Env → Option T
  | .no, _ => some (.bl true)
  | .so e, env => ev e env
def evi : It → Env → Option (List T)
  | .seq e, env => (ev e env).bind seqT
  | .rng1 e, env => (ev e env).bind fun x => match x with
    | .int n => if rngOk 0 n then some (rngT 0 n) else none
    | _ => none
  | .rng2 a b, env => (ev a env).bind fun x => (ev b env).bind fun y => match x, y with
    | .int i, .int j => if rngOk i j then some (rngT i j) else none
    | _, _ => none
  | .enm e, env => (ev e env).bind fun x => match x with
    | .lst ts => some (enumT 0 ts)
    | _ => none
  | .zip a b, env => (ev a env).bind fun x => (ev b env).bind fun y => match x, y with
    | .lst ts, .lst us => some (zipT ts us)
    | _, _ => none
end
/-- an expression out of which an error may come -/
inductive XE where
  | pure (e : E) | call (f : Nat) (es : EL) | ite (c : E) (a b : XE)
def evx : XE → Env → Option R
  | .pure e, env => (ev gv Φ e env).map .val
  | .call f es, env => (evs gv Φ es env).bind fun ts => (Φ f ts).bind R.st
  | .ite c a b, env => (ev gv Φ c env).bind fun x => match x with
    | .bl true => evx a env
    | .bl false => evx b env
    | _ => none
inductive Out where
  | nx (env : Env) | rt (t : T) | ex (c : Nat) | rw (t : T)
mutual
inductive S where
  | asg (tg : Tg) (e : E) | par (is : List Nat) (es : EL) | aug (op : Bop) (i : Nat) (e : E)
  | put2 (i : Nat) (k k' e e' : E)
  | asgC (i : Nat) (f : Nat) (es : EL) | unp (is : List Nat) (j : Nat) | fap (i c : Nat) (e : E) | kfa (x i : Nat) (k : Int) | pop (j i : Nat) | asgS (i j : Nat) (k : E)
  | app (i : Nat) (e : E) | ext (i : Nat) (e : E) | ins (i : Nat) (k e : E) | put (i : Nat) (k e : E)
  | iff (c : E) (a b : SL) | for_ (tg : Tg) (it : It) (b : SL) | whl (c : E) (b : SL)
  | lck (i : Nat) (s : S) | asgF (i : Nat) (e : E) | fro (tg : Tg) (i : Nat) (b : SL)
  | ret (m : Nat) (x : XE) | exp (x : XE) | rse (c : Nat) | rob (m : Nat) (c : Nat) (o : EO)
inductive SL where
  | nil | cons (s : S) (r : SL)
end
def forL (b : T → Env → Option Env) (f : Env → Option Out) : List T → Env → Option Out
  | [], env => some (.nx env)
  | t :: ts, env => (b t env).bind fun env1 => (f env1).bind fun o => match o with
    | .nx env2 => forL b f ts env2
    | .rt u => some (.rt u)
    | .ex c => some (.ex c)
    | .rw u => some (.rw u)
def whlL (c : Env → Option T) (f : Env → Option Out) : Nat → Env → Option Out
  | 0, _ => none
  | n + 1, env => (c env).bind fun q => match q with
    | .bl true => (f env).bind fun o => match o with
      | .nx env2 => whlL c f n env2
      | .rt u => some (.rt u)
      | .ex d => some (.ex d)
      | .rw u => some (.rw u)
    | .bl false => some (.nx env)
    | _ => none
def slot (env : Env) (i : Nat) : Option T := (env[i]?).join
def appT : T → T → Option T
  | .lst ts, u => if ts.length < LIM then some (.lst (ts ++ [u])) else none
  | _, _ => none
def extT : T → T → Option T
  | .lst ts, .lst us => if ts.length + us.length ≤ LIM then some (.lst (ts ++ us)) else none
  | _, _ => none
/-- at most one is not immutable -/
def oneM : List T → Bool
  | [] => true
  | t :: ts => if imm t then oneM ts else imms ts
def unpT (is : List Nat) : T → Option (List T)
  | .tup ts => if ts.length = is.length ∧ oneM ts = true then some ts else none
  | _ => none
def fapT (c : Nat) : T → T → Option T
  | .obj d [.lst ts], u => if d = c ∧ ts.length < LIM ∧ imms ts = true ∧ imm u = true then some (.obj d [.lst (ts ++ [u])]) else none
  | _, _ => none
def isLst : T → Bool
  | .lst ts => imms ts && decide (ts.length < 1000)
  | _ => false
def kfaT : T → Option T
  | .lst ts => if ts.all isLst && decide (ts.length < 1000) then some (.lst (ts.map fun _ => .unk)) else none
  | _ => none
def insT : T → T → T → Option T
  | .lst ts, .int k, u => if ts.length < LIM ∧ 0 ≤ k ∧ k ≤ ts.length then some (.lst (ts.take k.toNat ++ u :: ts.drop k.toNat)) else none
  | _, _, _ => none
def putT : T → T → T → Option T
  | .lst ts, .int k, u => (ixN ts.length k).map fun j => .lst (ts.set j u)
  | .dct ks ts, .tup us, u => (asInts us).bind fun k => if ts.length < LIM then some (.dct (dPut ks ts k u).1 (dPut ks ts k u).2) else none
  | _, _, _ => none
def pu2T : T → T → T → T → Option T
  | .lst ts, .int k, u, w => if imm u && imm w then (ixN ts.length k).map fun j => .lst (ts.set j u) else none
  | _, _, _, _ => none
def okF : Option T → Bool
  | none => true
  | some t => !hasF t
variable (W : Nat)
mutual
def exec : S → Env → Option Out
  | .asg tg e, env => (ev gv Φ e env).bind fun t => (bindT tg t env).map .nx
  | .par is es, env => (evs gv Φ es env).bind fun ts => if ts.length = is.length then some (.nx (setAll is ts env)) else none
  | .aug op i e, env => (slot env i).bind fun x => (ev gv Φ e env).bind fun y => match x, y with
    | .int _, .int _ => (binT op x y).map fun z => .nx (env.set i (some z))
    | _, _ => none
  | .app i e, env => (slot env i).bind fun x => (ev gv Φ e env).bind fun u => (appT x u).map fun z => .nx (env.set i (some z))
  | .ext i e, env => (slot env i).bind fun x => (ev gv Φ e env).bind fun u => (extT x u).map fun z => .nx (env.set i (some z))
  | .ins i k e, env => (slot env i).bind fun x => (ev gv Φ k env).bind fun q => (ev gv Φ e env).bind fun u => (insT x q u).map fun z => .nx (env.set i (some z))
  | .put i k e, env => (ev gv Φ e env).bind fun u => (slot env i).bind fun x => (ev gv Φ k env).bind fun q => (putT x q u).map fun z => .nx (env.set i (some z))
  | .put2 i k k' e e', env => (ev gv Φ e env).bind fun u => (ev gv Φ e' env).bind fun u' => (slot env i).bind fun x => (ev gv Φ k env).bind fun q => (pu2T x q u u').bind fun z => (ev gv Φ k' (env.set i (some z))).bind fun q' => (pu2T z q' u' u).map fun z' => .nx (env.set i (some z'))
  | .asgC i f es, env => (evs gv Φ es env).bind fun ts => ((Φ f ts).bind R.ok).map fun t => .nx (env.set i (some t))
  | .unp is j, env => (slot env j).bind fun x => (unpT is x).map fun ts => .nx (setAll is ts (env.set j none))
  | .fap i c e, env => (slot env i).bind fun x => (ev gv Φ e env).bind fun u => (fapT c x u).map fun z => .nx (env.set i (some z))
  | .kfa x i _, env => (slot env i).bind fun t => (kfaT t).map fun z => .nx ((env.set x none).set i (some z))
  | .pop j i, env => (slot env i).bind fun x => match x with
    | .lst ts => match ts.getLast? with
      | some u => some (.nx ((env.set i (some (.lst ts.dropLast))).set j (some u)))
      | none => none
    | _ => none
  | .asgS i j k, env => (slot env j).bind fun x => (ev gv Φ k env).bind fun y => match x, y with
    | .lst ts, .int m => (atI ts m).map fun t => .nx (env.set i (some t))
    | _, _ => none
  | .iff c a b, env => (ev gv Φ c env).bind fun q => match q with
    | .bl true => execs a env
    | .bl false => execs b env
    | _ => none
  | .for_ tg it b, env => (evi gv Φ it env).bind fun ts => forL (fun t env => bindT tg t env) (fun env => execs b env) ts env
  | .whl c b, env => whlL (fun env => ev gv Φ c env) (fun env => execs b env) W env
  | .asgF i e, env => (ev gv Φ e env).bind fun t => if flat t then some (.nx (env.set i (some t))) else none
  | .fro tg i b, env => (slot env i).bind fun x => match x with
    | .lst ts => (forL (fun t env => bindT tg t env) (fun env => execs b env) ts env).bind fun o => match o with
      | .nx env' => some (.nx (wipeE env' (tgSlots tg)))
      | .rt u => some (.rt u)
      | _ => none
    | _ => none
  | .lck i s, env => (slot env i).bind fun x => match x with
    | .dct ks ts => (exec s (env.set i (some (.fdc ks ts)))).bind fun o => match o with
      | .nx env' => if (env'.set i none).all okF then some (.nx (env'.set i none)) else none
      | _ => none
    | _ => none
  | .ret m x, env => (evx gv Φ x env).bind fun r => match r with
    | .val t => if m = 3 then some (.rw t) else if (if m = 0 then true else if m = 1 then flat t else imm t) then some (.rt t) else none
    | .exc c => some (.ex c)
    | .wkv _ => none
  | .exp x, env => (evx gv Φ x env).bind fun r => match r with
    | .val _ => some (.nx env)
    | .exc c => some (.ex c)
    | .wkv _ => none
  | .rse c, _ => some (.ex c)
  | .rob m c o, env => match o with
    | .no => some (.rt (.obj c []))
    | .so e => (ev gv Φ e env).bind fun t => if (if m = 1 then flat t else imm t) then some (.rt (.obj c [t])) else none
def execs : SL → Env → Option Out
  | .nil, env => some (.nx env)
  | .cons s r, env => (exec s env).bind fun o => match o with
    | .nx env2 => execs r env2
    | .rt t => some (.rt t)
    | .ex c => some (.ex c)
    | .rw t => some (.rw t)
end
end
/-- a def: how many parameters, how many slots, the body -/
structure Df where
  np : Nat
  ns : Nat
  body : SL
def Out.res : Out → R
  | .nx _ => .val .non
  | .rt t => .val t
  | .ex c => .exc c
  | .rw t => .wkv t
def runD (gv : Nat → Option Int) (Φ : Nat → List T → Option R) (W : Nat) (d : Df) (ts : List T) : Option R :=
  if ts.length = d.np then (execs gv Φ W d.body (ts.map some ++ List.replicate (d.ns - d.np) none)).map Out.res else none
/-- the program's functions to a depth -/
def Phi (gv : Nat → Option Int) (D : Nat → Option Df) (W : Nat) : Nat → Nat → List T → Option R
  | 0, _, _ => none
  | n + 1, f, ts => (D f).bind fun d => runD gv (Phi gv D W n) W d ts
end Sb
namespace Sb
open PySem L2
open Evl (Ex Ex.refl Ex.trans Ex.new)
structure Fl where
  ow : List Nat
  nw : List Nat
  dp : List Nat
deriving DecidableEq
structure At where
  ret : List Nat
  nw : Bool
  fr : Bool
def imA : At := ⟨[], true, true⟩
def At.join (a b : At) : At := ⟨a.ret ++ b.ret, a.nw && b.nw, a.fr && b.fr⟩
def flBlk (fl : Fl) (vs : List Nat) (a : At) : Fl := ⟨fl.ow.filter (fun i => !vs.contains i && !a.ret.contains i), if a.nw then vs ++ fl.nw else fl.nw.filter (fun i => !vs.contains i), []⟩
/-- whole numbers, by the look -/
def isI : E → Bool
  | .cint _ => true
  | .glob _ => true
  | .neg _ => true
  | .bin op a b => match op with
    | .add => isI a || isI b
    | .mul => isI a
    | _ => true
  | .blt b _ => match b with
    | .len => true | .sum => true | .abs => true | .max => true | .min => true | .int => true
    | _ => false
  | _ => false
mutual
def at_ (fl : Fl) : E → At
  | .var i => ⟨[i], fl.nw.contains i, false⟩
  | .bin op a b => if isI (.bin op a b) then imA else let x := (at_ fl a).join (at_ fl b); ⟨x.ret, x.nw, true⟩
  | .ite _ a b => (at_ fl a).join (at_ fl b)
  | .tup es => ⟨(ats fl es).ret, (ats fl es).nw, true⟩
  | .lst es => ⟨(ats fl es).ret, (ats fl es).nw, true⟩
  | .sub a _ => ⟨(at_ fl a).ret, (at_ fl a).nw, false⟩
  | .cut a _ _ => ⟨(at_ fl a).ret, (at_ fl a).nw, true⟩
  | .fld a _ => ⟨(at_ fl a).ret, (at_ fl a).nw, false⟩
  | .rev a => ⟨(at_ fl a).ret, (at_ fl a).nw, true⟩
  | .stp a _ => ⟨(at_ fl a).ret, (at_ fl a).nw, true⟩
  | .lzp a b => let x := (at_ fl a).join (at_ fl b); ⟨x.ret, x.nw, true⟩
  | .dsp _ v => ⟨(at_ fl v).ret, (at_ fl v).nw, true⟩
  | .blt b es => match b with
    | .list => ⟨(ats fl es).ret, (ats fl es).nw, true⟩
    | .tuple => ⟨(ats fl es).ret, (ats fl es).nw, true⟩
    | .dict => ⟨(ats fl es).ret, (ats fl es).nw, true⟩
    | _ => imA
  | .lc vs _ it _ e =>
    ⟨(at_ (flBlk fl vs (ati fl it)) e).ret.filter (fun i => !vs.contains i) ++ (ati fl it).ret, (at_ (flBlk fl vs (ati fl it)) e).nw, true⟩
  | _ => imA
def ats (fl : Fl) : EL → At
  | .nil => imA
  | .cons e es => (at_ fl e).join (ats fl es)
def ati (fl : Fl) : It → At
  | .seq e => at_ fl e
  | .enm e => at_ fl e
  | .zip a b => (at_ fl a).join (at_ fl b)
  | _ => imA
end
def atx (fl : Fl) : XE → At
  | .pure e => at_ fl e
  | .call _ _ => imA
  | .ite _ a b => (atx fl a).join (atx fl b)
def ownV (fl : Fl) : XE → Bool
  | .pure (.var i) => fl.ow.contains i
  | _ => false
def flDrop (fl : Fl) (ret : List Nat) : Fl := ⟨fl.ow.filter (fun i => !ret.contains i), fl.nw, fl.dp⟩
def flSet (fl : Fl) (i : Nat) (own nw : Bool) : Fl := ⟨(if own then [i] else []) ++ fl.ow.filter (fun j => j != i), (if nw then [i] else []) ++ fl.nw.filter (fun j => j != i), fl.dp.filter (fun j => j != i)⟩
def flMeet (a b : Fl) : Fl := ⟨a.ow.filter (fun i => b.ow.contains i), a.nw.filter (fun i => b.nw.contains i), a.dp.filter (fun i => b.dp.contains i)⟩
def flLe (a b : Fl) : Bool := b.ow.all (fun i => a.ow.contains i) && b.nw.all (fun i => a.nw.contains i) && b.dp.all (fun i => a.dp.contains i)
/-- made by a call: all of it is the slot's own -/
def flSetD (fl : Fl) (i : Nat) : Fl := ⟨(flSet fl i true true).ow, (flSet fl i true true).nw, i :: (flSet fl i true true).dp⟩
def flUnp (is : List Nat) (j : Nat) (nw : Bool) (fl : Fl) : Fl := ⟨is ++ fl.ow.filter (fun k => k != j && !is.contains k), (if nw then is else []) ++ fl.nw.filter (fun k => k != j && !is.contains k), is ++ fl.dp.filter (fun k => k != j && !is.contains k)⟩
def flSetT (fl : Fl) (tg : Tg) (own nw : Bool) : Fl := match tg with
  | .nm i => flSet fl i own nw
  | .tp is => is.foldl (fun f i => flSet f i false nw) fl
def flMeetO : Option Fl → Option Fl → Option Fl
  | none, b => b
  | a, none => a
  | some a, some b => some (flMeet a b)
/-- slot j's thing goes over to slot i -/
def flMove (fl : Fl) (i j : Nat) : Fl := flSet (flSet fl i (fl.ow.contains j) (fl.nw.contains j)) j false false
/-- flags through parallel stores: first to the places from n on, then from there -/
def flTmp (n : Nat) : EL → Fl → Fl
  | .nil, fl => fl
  | .cons e es, fl => flTmp (n + 1) es (flSet (flDrop fl (at_ fl e).ret) n (at_ fl e).fr (at_ fl e).nw)
def flMvs (n : Nat) : List Nat → Fl → Fl
  | [], fl => fl
  | i :: is, fl => flMvs (n + 1) is (flMove fl i n)
def flCut (fl : Fl) (n : Nat) : Fl := ⟨fl.ow.filter (fun i => decide (i < n)), fl.nw.filter (fun i => decide (i < n)), fl.dp.filter (fun i => decide (i < n))⟩
def flPar (n : Nat) (is : List Nat) (es : EL) (fl : Fl) : Fl := flCut (flMvs n is (flTmp n es (flCut fl n))) n
def EL.len : EL → Nat
  | .nil => 0
  | .cons _ es => es.len + 1
def fix3 (f : Fl → Option (Option Fl)) (fl : Fl) : Nat → Option Fl
  | 0 => none
  | n + 1 => match f fl with
    | none => none
    | some none => some fl
    | some (some g) => if flLe g fl then some fl else fix3 f (flMeet fl g) n
mutual
/-- slots that a reading body stores into -/
def asgd : S → List Nat
  | .asgF i _ => [i]
  | .iff _ a b => asgds a ++ asgds b
  | _ => []
def asgds : SL → List Nat
  | .nil => []
  | .cons s r => asgd s ++ asgds r
end
mutual
/-- a body that changes nothing -/
def roOk : S → Bool
  | .asgF _ e => (at_ ⟨[], [], []⟩ e).fr
  | .iff _ a b => roOks a && roOks b
  | .ret m (.pure _) => m == 2
  | _ => false
def roOks : SL → Bool
  | .nil => true
  | .cons s r => roOk s && roOks r
end
def flFro (fl : Fl) (l : List Nat) : Fl := ⟨fl.ow.filter (fun j => !l.contains j), fl.nw, fl.dp.filter (fun j => !l.contains j)⟩
mutual
/-- none: not allowed; some none: never goes on; some (some fl): goes on so -/
def flS (n : Nat) : S → Fl → Option (Option Fl)
  | .asg tg e, fl => let a := at_ fl e; some (some (flSetT (flDrop fl a.ret) tg a.fr a.nw))
  | .par is es, fl => if is.all (fun i => decide (i < n)) && (es.len == is.length) then some (some (flPar n is es fl)) else none
  | .aug _ i e, fl => some (some (flSet fl i false true))
  | .app i e, fl => let a := at_ fl e; if fl.ow.contains i && !a.ret.contains i then some (some (flSet (flDrop fl a.ret) i true (a.nw && fl.nw.contains i))) else none
  | .ext i e, fl => let a := at_ fl e; if fl.ow.contains i && !a.ret.contains i then some (some (flSet (flDrop fl a.ret) i true (a.nw && fl.nw.contains i))) else none
  | .ins i _ e, fl => let a := at_ fl e; if fl.ow.contains i && !a.ret.contains i then some (some (flSet (flDrop fl a.ret) i true (a.nw && fl.nw.contains i))) else none
  | .put i _ e, fl => let a := at_ fl e; if fl.ow.contains i && !a.ret.contains i then some (some (flSet (flDrop fl a.ret) i true (a.nw && fl.nw.contains i))) else none
  | .put2 i _ _ _ _, fl => if fl.ow.contains i then some (some (flSet (flDrop (flSet (flDrop fl []) i true (true && fl.nw.contains i)) []) i true (true && (flSet (flDrop fl []) i true (true && fl.nw.contains i)).nw.contains i))) else none
  | .asgC i _ _, fl => some (some (flSetD fl i))
  | .unp is j, fl => if fl.dp.contains j && fl.ow.contains j && !is.contains j && is.all (fun i => decide (i < n)) && decide is.Nodup then some (some (flUnp is j (fl.nw.contains j) fl)) else none
  | .fap i _ e, fl => if fl.dp.contains i && fl.ow.contains i && !(at_ fl e).ret.contains i then some (some fl) else none
  | .kfa x i _, fl => if fl.dp.contains i && fl.ow.contains i && !(x == i) && decide (x < n) then some (some (flSet (flSet fl i true (fl.nw.contains i)) x false false)) else none
  | .asgS i j _, fl => if fl.ow.contains j && !(i == j) then some (some (flSet ⟨fl.ow, fl.nw, fl.dp.filter (fun k => k != j)⟩ i false (fl.nw.contains j))) else none
  | .pop j i, fl => if fl.ow.contains i && !(j == i) then some (some (flSet (flSet fl i true (fl.nw.contains i)) j false (fl.nw.contains i))) else none
  | .iff _ a b, fl => match flSs n a fl, flSs n b fl with
    | some x, some y => some (flMeetO x y)
    | _, _ => none
  | .for_ tg it b, fl =>
    let ai := ati fl it
    let fl0 := flDrop fl ai.ret
    (fix3 (fun f => flSs n b (flSetT f tg false ai.nw)) fl0 4).map some
  | .whl _ b, fl => (fix3 (fun f => flSs n b f) fl 4).map some
  | .asgF i e, fl => if (at_ fl e).fr then some (some (flSetD fl i)) else none
  | .fro tg i b, fl => if fl.ow.contains i && roOks b && !(asgds b).contains i && !(tgSlots tg).contains i then some (some (flFro fl (tgSlots tg ++ asgds b))) else none
  | .lck i s, fl => if fl.ow.contains i && fl.nw.contains i then (match flS n s (flSet fl i false true) with
    | some (some g) => some (some (flSet g i false false))
    | _ => none) else none
  | .ret m x, fl => if (if m = 0 then (atx fl x).nw else if m = 1 then (atx fl x).fr || ownV fl x else true) then some none else none
  | .exp _, fl => some (some fl)
  | .rse _, _ => some none
  | .rob _ _ _, _ => none
def flSs (n : Nat) : SL → Fl → Option (Option Fl)
  | .nil, fl => some (some fl)
  | .cons s r, fl => match flS n s fl with
    | none => none
    | some none => some none
    | some (some g) => flSs n r g
end
def isStar : Expr → Bool
  | .Starred _ _ => true
  | _ => false
def isSlice : Expr → Bool
  | .Slice _ _ _ _ => true
  | _ => false
def isSet : Expr → Bool
  | .Set _ _ _ => true
  | _ => false
def isCompr : Expr → Bool
  | .ListComp _ _ _ _ => true
  | .SetComp _ _ _ _ => true
  | .DictComp _ _ _ _ _ => true
  | _ => false
def isOp : Expr → Bool
  | .UnaryOp .Not _ _ => true
  | .BoolOp _ _ _ => true
  | .IfExp _ _ _ _ => true
  | .Compare _ _ _ _ => true
  | _ => false
def glB (sc : Scope) (x : Str) : Bool := decide (sc.names.lookup x = some .globalImplicit)
def visB (sc : Scope) (x : Str) : Bool := match sc.names.lookup x with
  | some .local => true
  | some .cell => true
  | some .free => true
  | _ => false
def locB (sc : Scope) (x : Str) : Bool := match sc.names.lookup x with
  | some .local => true
  | some .cell => true
  | _ => false
def okName (x : Str) : Bool := !(x == ("__debug__" : Str)) && !(x == ("__classdict__" : Str)) && decide (x ≠ "__name__")
def Bop.py : Bop → Operator
  | .add => .Add | .sub => .Sub | .mul => .Mult | .fdiv => .FloorDiv | .mod => .Mod | .pow => .Pow | .shr => .RShift
def Cop.py : Cop → CmpOp
  | .eq => .Eq | .ne => .NotEq | .lt => .Lt | .le => .LtE | .gt => .Gt | .ge => .GtE | .mem => .In | .nmem => .NotIn | .is_ => .Is | .isnot => .IsNot
def Bi.nm : Bi → Str
  | .len => "len" | .sum => "sum" | .all => "all" | .any => "any" | .abs => "abs" | .max => "max" | .min => "min" | .int => "int" | .list => "list" | .tuple => "tuple" | .sorted => "sorted" | .lrange => "list" | .dict => "dict"
def Kd.nm : Kd → Str
  | .int => "int" | .bool => "bool" | .tuple => "tuple" | .list => "list" | .str => "str" | .cls _ _ _ => ""
def opEq (a b : Operator) : Bool := match a, b with
  | .Add, .Add => true | .Sub, .Sub => true | .Mult, .Mult => true | .FloorDiv, .FloorDiv => true | .Mod, .Mod => true | .Pow, .Pow => true | .RShift, .RShift => true
  | _, _ => false
theorem opEq_eq {a b : Operator} (h : opEq a b = true) : a = b := by
  cases a <;> cases b <;> first | rfl | cases h
def cmpEq (a b : CmpOp) : Bool := match a, b with
  | .Eq, .Eq => true | .NotEq, .NotEq => true | .Lt, .Lt => true | .LtE, .LtE => true | .Gt, .Gt => true | .GtE, .GtE => true | .In, .In => true | .NotIn, .NotIn => true | .Is, .Is => true | .IsNot, .IsNot => true
  | _, _ => false
theorem cmpEq_eq {a b : CmpOp} (h : cmpEq a b = true) : a = b := by
  cases a <;> cases b <;> first | rfl | cases h
/-- which targets: sc the scope of the block, fb the names whose cells are the block's own -/
def tgNm (N : List Str) (sc : Scope) (fb : Str → Bool) (i : Nat) : Expr → Bool
  | .Name x _ => decide (N[i]? = some x) && locB sc x && (fb x || decide (sc.names.lookup x = some .local))
  | _ => false
def tgNms (N : List Str) (sc : Scope) (fb : Str → Bool) : List Nat → List Expr → Bool
  | [], [] => true
  | i :: is, e :: es => tgNm N sc fb i e && tgNms N sc fb is es
  | _, _ => false
def tgC (N : List Str) (sc : Scope) (fb : Str → Bool) : Tg → Expr → Bool
  | .nm i, e => tgNm N sc fb i e
  | .tp is, .Tuple es _ _ => tgNms N sc fb is es
  | _, _ => false
def isTup : Expr → Bool
  | .Tuple _ _ _ => true
  | _ => false
def ordC : Cop → Bool
  | .mem => false
  | .nmem => false
  | _ => true
/-- what may be a test -/
def tOk : E → Bool
  | .ite _ _ _ => false
  | .not a => tOk a
  | .and a b => tOk a && tOk b
  | .or a b => tOk a && tOk b
  | _ => true
/-- the names of the table -/
structure Nm where
  fn : Nat → Str
  gl : Nat → Str
  cl : Nat → Str
  fl : Nat → Str
  kin : Nat → Nat → Option Bool
/-- no call of super -/
def baseB : Expr → Bool
  | .Call (.Name x _) [] [] _ => x != "super"
  | _ => true
section
variable (nm : Nm) (N : List Str)
def lookAll (vs : List Nat) : List (Str × Nat) := vs.map fun i => ((N[i]?).getD "", i)
mutual
def chk : Scope → E → Expr → Bool
  | sc, .var i, .Name x _ => decide (N[i]? = some x) && visB sc x && okName x
  | _, .cint i, .Constant (.int j) _ _ => decide (i = j)
  | _, .cbl b, .Constant (.bool c) _ _ => decide (b = c)
  | _, .cnon, .Constant .none _ _ => true
  | _, .cstr s, .Constant (.str x) _ _ => decide (x = (s : Str))
  | sc, .glob g, .Name x _ => decide (nm.gl g = x) && glB sc x && okName x
  | sc, .bin op a b, .BinOp pa po pb _ => opEq op.py po && chk sc a pa && chk sc b pb
  | sc, .neg a, .UnaryOp .USub pa _ => chk sc a pa
  | sc, .not a, .UnaryOp .Not pa _ => chk sc a pa
  | sc, .and a b, .BoolOp .And (pa :: pb :: rest) pos => chk sc a pa && (if rest.isEmpty then chk sc b pb else chk sc b (.BoolOp .And (pb :: rest) pos))
  | sc, .or a b, .BoolOp .Or (pa :: pb :: rest) pos => chk sc a pa && (if rest.isEmpty then chk sc b pb else chk sc b (.BoolOp .Or (pb :: rest) pos))
  | sc, .cmp op a b, .Compare pa [po] [pb] _ => cmpEq op.py po && chk sc a pa && chk sc b pb && !isSet pb
  | sc, .chn op op' a b c, .Compare pa [po, po'] [pb, pc] _ => cmpEq op.py po && cmpEq op'.py po' && chk sc a pa && chk sc b pb && chk sc c pc && !isSet pc && ordC op && ordC op'
  | sc, .ite c a b, .IfExp pc pa pb _ => tOk c && chk sc c pc && chk sc a pa && chk sc b pb
  | sc, .tup es, .Tuple pes _ _ => chks sc es pes
  | sc, .lst es, .List pes _ => chks sc es pes
  | sc, .cut a lo hi, .Subscript pa (.Slice plo phi none _) _ => chk sc a pa && chko sc lo plo && chko sc hi phi
  | sc, .csb f es k, .Subscript (.Call (.Name x _) pes [] _) (.Constant (.int j) _ _) _ => decide (f < 10000) && decide (nm.fn f = x) && glB sc x && okName x && chks sc es pes && decide (j = k) && !pes.isEmpty
  | sc, .stp a k, .Subscript pa (.Slice none none (some pk) _) _ => chk sc a pa && chk sc k pk
  | sc, .rev a, .Subscript pa (.Slice none none (some (.UnaryOp .USub (.Constant (.int j) _ _) _)) _) _ => chk sc a pa && decide (j = 1)
  | sc, .sub a i, .Subscript pa pi _ => chk sc a pa && chk sc i pi && !isSlice pi
  | sc, .cmw op f es b, .Compare (.Call (.Name x _) pes [] _) [po] [pb] _ => cmpEq op.py po && (decide (f < 10000) && decide (nm.fn f = x) && glB sc x && okName x && chks sc es pes) && chk sc b pb && !isSet pb && ordC op && !pes.isEmpty
  | sc, .call f es, .Call (.Name x _) pes [] _ => decide (f < 10000) && decide (nm.fn f = x) && glB sc x && okName x && chks sc es pes
  | sc, .lrg e, .Call (.Name x _) [.Call (.Name y _) [pe] [] _] [] _ => decide (x = "list") && decide (y = "range") && glB sc x && glB sc y && chk sc e pe && !isStar pe
  | sc, .sst a, .Call (.Name x _) [.Call (.Name y _) [pa] [] _] [] _ => decide (x = "sorted") && decide (y = "set") && glB sc x && glB sc y && chk sc a pa && !isStar pa
  | sc, .lzp a b, .Call (.Name x _) [.Call (.Name y _) [pa, pb] [] _] [] _ => decide (x = "list") && decide (y = "zip") && glB sc x && glB sc y && chk sc a pa && !isStar pa && chk sc b pb && !isStar pb
  | sc, .dsp k v, .Dict [some pk] [pv] _ => chk sc k pk && chk sc v pv
  | sc, .blt b es, .Call (.Name x _) pes [] _ => decide (b.nm = x) && decide (b ≠ .lrange) && glB sc x && chks sc es pes && !pes.isEmpty
  | sc, .isi a k, .Call (.Name x _) [pa, .Name y _] [] _ => decide (x = "isinstance") && glB sc x && chk sc a pa && !isStar pa && (match k with
    | .cls c acc rej => decide (nm.cl c = y) && acc.all (fun d => decide (nm.kin c d = some true)) && rej.all (fun d => decide (nm.kin c d = some false))
    | _ => decide (k.nm = y)) && glB sc y && okName y
  | sc, .lc vs tg it c e, .ListComp pe [⟨ptg, pit, pifs, as⟩] scope _ =>
    decide (as = 0) && chki sc it ptg pit && blkC N sc scope (lookAll N vs) && tgC N (relS scope sc) (fun x => scope.names.lookup x == some .cell) tg ptg && (tgSlots tg).all (fun i => vs.contains i) &&
    chkif (relS scope sc) c pifs && chk (relS scope sc) e pe
  | _, .dnew, .Dict [] [] _ => true
  | sc, .idx a b, .Call (.Attribute pa m ap) [pb] [] p => decide (m = "index") && chk sc a pa && chk sc b pb && !isStar pb && (ap.endLine == p.line) && baseB pa
  | sc, .cnt a b, .Call (.Attribute pa m ap) [pb] [] p => decide (m = "count") && chk sc a pa && chk sc b pb && !isStar pb && (ap.endLine == p.line) && baseB pa
  | sc, .mk c es, .Call (.Name x _) pes [] _ => decide (c < 100) && decide (nm.cl c = x) && glB sc x && okName x && chks sc es pes
  | sc, .fld a c, .Attribute pa f _ => decide (nm.fl c = f) && decide (f ≠ "") && chk sc a pa && baseB pa
  | sc, .shw a es, .Call (.Attribute pa m ap) pes [] p => decide (m = "shows") && chk sc a pa && baseB pa && chks sc es pes && !pes.isEmpty && (ap.endLine == p.line) && decide (pes.length < 20)
  | _, _, _ => false
def chks : Scope → EL → List Expr → Bool
  | _, .nil, [] => true
  | sc, .cons e es, pe :: pes => chk sc e pe && !isStar pe && chks sc es pes
  | _, _, _ => false
def chko : Scope → EO → Option Expr → Bool
  | _, .no, none => true
  | sc, .so e, some pe => chk sc e pe
  | _, _, _ => false
def chkif : Scope → EO → List Expr → Bool
  | _, .no, [] => true
  | sc, .so e, [pe] => tOk e && chk sc e pe
  | _, _, _ => false
def chki : Scope → It → Expr → Expr → Bool
  | sc, .seq e, _, pe => chk sc e pe && !isSet pe
  | sc, .rng1 e, _, .Call (.Name x _) [pe] [] _ => decide (x = "range") && glB sc x && chk sc e pe && !isStar pe
  | sc, .rng2 a b, _, .Call (.Name x _) [pa, pb] [] _ => decide (x = "range") && glB sc x && chk sc a pa && !isStar pa && chk sc b pb && !isStar pb
  | sc, .enm e, tg, .Call (.Name x _) [pe] [] _ => decide (x = "enumerate") && glB sc x && chk sc e pe && !isStar pe && isTup tg
  | sc, .zip a b, tg, .Call (.Name x _) [pa, pb] [] _ => decide (x = "zip") && glB sc x && chk sc a pa && !isStar pa && chk sc b pb && !isStar pb && isTup tg
  | _, _, _, _ => false
end
end
theorem base_ok {e : Expr} {f : Str} {env : PySem.Env} {w : Sem Value} (h : baseB e = true) : attributeBase e f env w = w := by
  have key : ∀ (x : Str) (p q : Pos), (x != "super") = true → attributeBase (.Call (.Name x p) [] [] q) f env w = w := by
    intro x p q hx
    unfold attributeBase
    simp only [hx, Bool.true_or, if_true]
  cases e with
  | Call f' as ks p =>
    cases f' with
    | Name x p2 =>
      cases as with
      | nil => cases ks with
        | nil => exact key x p2 p h
        | cons _ _ => rfl
      | cons _ _ => rfl
    | _ => rfl
  | _ => rfl
theorem star_ok {e : Expr} {es : List Expr} {env : PySem.Env} (h : isStar e = false) : starEach (e :: es) env = (false, eval e env) :: starEach es env := by
  cases e <;> first | rfl | cases h
theorem ix_ok {e : Expr} (h : isSlice e = false) : PlainIx e := by
  intro o i
  cases e <;> first | rfl | cases h
theorem set_ok {e : Expr} {env : PySem.Env} (h : isSet e = false) : ∀ x, foldedSetIterable e env x = pure x := by
  intro x
  cases e <;> first | rfl | cases h
theorem mark_ok {e : Expr} {op : CmpOp} (h : isSet e = false) : behindInMarks op e = false := by
  cases e <;> first | rfl | cases h
theorem comp_ok {e : Expr} {t : Option Expr} {l : Nat} {env : PySem.Env} (h : isCompr e = false) : swapsWith e t l env = pure false := by
  cases e <;> first | rfl | cases h
theorem test_ok {e : Expr} {env : PySem.Env} (h : isOp e = false) : ∀ whole, isTrue e env whole = (do let v ← whole; standAt e.pos; holding [v] (truthy v)) := by
  intro w
  cases e with
  | UnaryOp op a pos => cases op <;> first | rfl | cases h
  | BoolOp _ _ _ => cases h
  | IfExp _ _ _ _ => cases h
  | Compare _ _ _ _ => cases h
  | _ => rfl
theorem vis_ok {sc : Scope} {x : Str} (h : visB sc x = true) : Vis sc x := by
  unfold visB at h
  split at h
  · exact .inl (by assumption)
  · exact .inr (.inl (by assumption))
  · exact .inr (.inr (by assumption))
  · cases h
theorem loc_ok {sc : Scope} {x : Str} (h : locB sc x = true) : Loc sc x := by
  unfold locB at h
  split at h
  · exact .inl (by assumption)
  · exact .inr (by assumption)
  · cases h
theorem name_ok {x : Str} (h : okName x = true) : (x == ("__debug__" : Str)) = false ∧ (x == ("__classdict__" : Str)) = false ∧ x ≠ "__name__" := by
  unfold okName at h
  rw [Bool.and_eq_true, Bool.and_eq_true] at h
  obtain ⟨⟨h1, h2⟩, h3⟩ := h
  exact ⟨by simpa using h1, by simpa using h2, of_decide_eq_true h3⟩
end Sb
namespace Sb
open PySem L2
open Evl (Ex Ex.refl Ex.trans Ex.new)
section
variable (K : PySem.W.Frag) (CL : Nat → Addr × List Str)
/-- regions: which slot owns an address -/
abbrev AR := Nat → AS
def uni (O : AR) : AS := fun b => ∃ g, O g b
/-- where a slot's tree may reach -/
def SlS (O : AR) (i : Nat) (nw : Bool) (H0 : Hp) : AS := fun b => (∀ g, O g b → g = i) ∧ (nw = true → H0 b = none)
structure Ok (H0 : Hp) (fl : Fl) (env : Env) (σ : L2.St) (H : Hp) (O : AR) : Prop where
  len : σ.length = env.length
  ex : Ex H0 H
  of_ : ∀ g a, O g a → H0 a = none
  oa : ∀ g a, O g a → H a ≠ none
  ds : ∀ g k a, O g a → O k a → g = k
  fz : ∀ g a o, O g a → H a = some o → frzO o = false
  sl : ∀ i t, env[i]? = some (some t) → ∃ v, σ[i]? = some (some v) ∧ Rep K CL H t (SlS O i (fl.nw.contains i) H0) v ∧ (fl.ow.contains i = true → mutR t = true → ∃ a, v = .ref a ∧ O i a)
  dp : ∀ i t v, fl.dp.contains i = true → fl.ow.contains i = true → env[i]? = some (some t) → σ[i]? = some (some v) → Rep K CL H t (O i) v
/-- where a result's tree may reach -/
def SS (O : AR) (env : Env) (σ : L2.St) (ret : List Nat) (H0 : Hp) (nw : Bool) : AS := fun b => (∀ g, O g b → g ∈ ret) ∧ (nw = true → H0 b = none)
def Fre (H : Hp) (t : T) (v : V) : Prop := mutR t = true → ∃ p, v = .ref p ∧ H p = none
def RE (fl : Fl) (H0 : Hp) (f : Env → Option T) (a : At) : TE := fun σ H Q => ∃ env O t, Ok K CL H0 fl env σ H O ∧ f env = some t ∧
  ∀ v H', Ex H H' → Rep K CL H' t (SS O env σ a.ret H0 a.nw) v → (a.fr = true → Fre H t v) → Q v H'
def RT (fl : Fl) (H0 : Hp) (f : Env → Option T) : TT := fun σ H Q => ∃ env O b, Ok K CL H0 fl env σ H O ∧ f env = some (.bl b) ∧ ∀ H', Ex H H' → Q b H'
def RA (fl : Fl) (H0 : Hp) (f : Env → Option (List T)) (a : At) : TA := fun σ H Q => ∃ env O ts, Ok K CL H0 fl env σ H O ∧ f env = some ts ∧
  ∀ vs H', Ex H H' → Reps K CL H' ts (SS O env σ a.ret H0 a.nw) vs → Q vs H'
def RO (fl : Fl) (H0 : Hp) (f : Env → Option (Option Int)) : TO := fun σ H Q => ∃ env O o, Ok K CL H0 fl env σ H O ∧ f env = some o ∧ ∀ H', Ex H H' → Q o H'
/-- an iterator walks the trees ts, while S is kept -/
def JW (J : L2.It) (ts : List T) (S : AS) (H1 : Hp) : Prop := ∀ H, Keep S H1 H → ∀ i, (∀ t, ts[i]? = some t → J.go i H ∧ ∀ x H', J.yld i H x H' → Ex H H' ∧ Rep K CL H' t S x) ∧ (ts.length ≤ i → J.stop i H)
def RI (fl : Fl) (H0 : Hp) (f : Env → Option (List T)) (a : At) : TI := fun σ H R => ∃ env O ts, Ok K CL H0 fl env σ H O ∧ f env = some ts ∧
  (ts.length ≤ LIM → ∀ J H1, Ex H H1 → JW K CL J ts (fun b => SS O env σ a.ret H0 a.nw b ∧ H1 b ≠ none) H1 → R J H1)
end
section
variable {K : PySem.W.Frag} {CL : Nat → Addr × List Str} {H0 H H' : Hp} {fl : Fl} {env : Env} {σ : L2.St} {O : AR}
theorem Ok.exd (ok : Ok K CL H0 fl env σ H O) (e : Ex H H') : Ok K CL H0 fl env σ H' O where
  len := ok.len
  ex := ok.ex.trans e
  of_ := ok.of_
  oa := fun g a h z => by
    cases q : H a with
    | none => exact ok.oa g a h q
    | some o => rw [e a o q] at z; cases z
  sl := fun i t h => by
    obtain ⟨v, h1, h2, h3⟩ := ok.sl i t h
    exact ⟨v, h1, h2.ex e, h3⟩
  ds := ok.ds
  fz := fun g a o h z => by
    cases q : H a with
    | none => exact absurd q (ok.oa g a h)
    | some o' =>
      rw [e a o' q] at z
      cases z
      exact ok.fz g a _ h q
  dp := fun i t v h1 h2 h3 h4 => (ok.dp i t v h1 h2 h3 h4).ex e
theorem ex_none {p : Addr} (e : Ex H H') (h : H' p = none) : H p = none := by
  cases q : H p with
  | none => rfl
  | some o => rw [e p o q] at h; cases h
theorem ss_new {p : Addr} {ret : List Nat} {nw : Bool} (ok : Ok K CL H0 fl env σ H O) (hp : H p = none) : SS O env σ ret H0 nw p :=
  ⟨fun g o => absurd hp (ok.oa g p o), fun _ => ex_none ok.ex hp⟩
theorem le_big : ∀ (l : List Nat) (i : Nat), i ∈ l → i < l.sum + 1
  | [], i, h => by cases h
  | a :: l, i, h => by
    rw [List.sum_cons]
    rcases List.mem_cons.mp h with rfl | h
    · omega
    · have := le_big l i h; omega
theorem fresh_nat (l : List Nat) : ∃ M, M ∉ l := ⟨l.sum + 1, fun h => absurd (le_big l _ h) (Nat.lt_irrefl _)⟩
/-- a new thing that no slot holds -/
theorem ok_hide {p : Addr} (ok : Ok K CL H0 fl env σ H O) (e : Ex H H') (hp : H p = none) (hp' : ∃ o, H' p = some o ∧ frzO o = false) (M : Nat) : Ok K CL H0 fl env σ H' (fun g b => O g b ∨ (g = M ∧ b = p)) where
  len := ok.len
  ex := ok.ex.trans e
  of_ := fun g a h => by
    rcases h with h | ⟨_, rfl⟩
    · exact ok.of_ g a h
    · exact ex_none ok.ex hp
  oa := fun g a h => by
    rcases h with h | ⟨_, rfl⟩
    · exact (ok.exd e).oa g a h
    · obtain ⟨o, h1, _⟩ := hp'
      rw [h1]; simp
  fz := fun g a o h z => by
    rcases h with h | ⟨_, rfl⟩
    · exact (ok.exd e).fz g a o h z
    · obtain ⟨o', h1, h2⟩ := hp'
      rw [h1] at z; cases z; exact h2
  ds := fun g k a h1 h2 => by
    rcases h1 with h1 | ⟨rfl, rfl⟩
    · rcases h2 with h2 | ⟨rfl, rfl⟩
      · exact ok.ds g k a h1 h2
      · exact absurd hp (ok.oa g _ h1)
    · rcases h2 with h2 | ⟨h3, _⟩
      · exact absurd hp (ok.oa k _ h2)
      · exact h3.symm
  sl := fun i t h => by
    obtain ⟨v, h1, h2, h3⟩ := ok.sl i t h
    have r2 : Rep K CL H t (SlS (fun g b => O g b ∨ (g = M ∧ b = p)) i (fl.nw.contains i) H0) v := h2.alloc.mono fun b hb => ⟨fun g o => by
      rcases o with o | ⟨_, rfl⟩
      · exact hb.1.1 g o
      · exact absurd hp hb.2, hb.1.2⟩
    refine ⟨v, h1, r2.ex e, fun g1 g2 => ?_⟩
    obtain ⟨a, e1, e2⟩ := h3 g1 g2
    exact ⟨a, e1, .inl e2⟩
  dp := fun i t v h1 h2 h3 h4 => ((ok.dp i t v h1 h2 h3 h4).mono fun b hb => .inl hb).ex e
theorem ss_mono {ret ret' : List Nat} {nw nw' : Bool} (h : ∀ i ∈ ret, i ∈ ret') (h2 : nw' = true → nw = true) : ∀ b, SS O env σ ret H0 nw b → SS O env σ ret' H0 nw' b := fun b q =>
  ⟨fun g o => h g (q.1 g o), fun n => q.2 (h2 n)⟩
theorem new_lst {p : Addr} {ret : List Nat} {nw : Bool} {ts : List T} {vs : List V} (ok : Ok K CL H0 fl env σ H O) (hp : H p = none) (hl : ts.length ≤ LIM) (r : Reps K CL H ts (SS O env σ ret H0 nw) vs) :
    Rep K CL (upd H p (.lst vs)) (.lst ts) (SS O env σ ret H0 nw) (.ref p) :=
  ⟨p, vs, rfl, ss_new ok hp, upd_same, hl, (r.alloc.mono (S' := AS.but _ p) fun b q => ⟨q.1, fun z => q.2 (by rw [z]; exact hp)⟩).ex (Ex.new hp)⟩
theorem new_tup {p : Addr} {S : AS} {ts : List T} {vs : List V} (hp : H p = none) (hl : ts.length ≤ LIM) (r : Reps K CL H ts S vs) :
    Rep K CL (upd H p (.tup vs)) (.tup ts) S (.ref p) :=
  ⟨p, vs, rfl, upd_same, hl, r.ex (Ex.new hp)⟩
/-- a list or tuple read -/
theorem rep_lst {ts : List T} {S : AS} {v : V} (h : Rep K CL H (.lst ts) S v) : ∃ a vs, v = .ref a ∧ H a = some (.lst vs) ∧ SqL K H a vs ∧ Reps K CL H ts S vs ∧ ts.length ≤ LIM := by
  obtain ⟨a, vs, e, _, h1, h2, h3⟩ := h
  exact ⟨a, vs, e, h1, .inl (.inl h1), h3.mono fun _ q => q.1, h2⟩
theorem rep_tup {ts : List T} {S : AS} {v : V} (h : Rep K CL H (.tup ts) S v) : ∃ a vs, v = .ref a ∧ SqT K H a vs ∧ Reps K CL H ts S vs ∧ ts.length ≤ LIM ∧ H a = some (.tup vs) := by
  obtain ⟨a, vs, e, h1, h2, h3⟩ := h
  exact ⟨a, vs, e, .inl (.inl h1), h3, h2, h1⟩
theorem rep_scr {ns : List Int} {S : AS} {v : V} (h : Rep K CL H (.scr ns) S v) : ∃ a, v = .ref a ∧ SqL K H a (ns.map V.int) ∧ ns.length ≤ LIM := by
  obtain ⟨a, e, h1, h2⟩ := h
  exact ⟨a, e, h1.l, h2⟩
mutual
theorem rep_dp : ∀ {t : T} {S : AS} {v : V} {n : Nat}, dat n t = true → Rep K CL H t S v → Dp K H v (toD t)
  | .non, _, _, _, _, h => by cases h; exact .non
  | .bl b, _, _, _, _, h => by cases h; exact .bl b
  | .int i, _, _, _, _, h => by cases h; exact .int i
  | .str x, _, _, _, _, h => by cases h; exact .str x
  | .tup ts, S, v, n, q, h => by
    obtain ⟨a, vs, e, h1, h2, _⟩ := rep_tup h
    subst e
    cases n with
    | zero => cases q
    | succ n => exact .tup h1 (reps_dp (n := n) (by simpa [dat] using q) h2)
  | .lst ts, S, v, n, q, h => by
    obtain ⟨a, vs, e, _, h1, h2, _⟩ := rep_lst h
    subst e
    cases n with
    | zero => cases q
    | succ n => exact .lst h1 (reps_dp (n := n) (by simpa [dat] using q) h2)
  | .scr ns, S, v, n, q, h => by
    obtain ⟨a, e, h1, _⟩ := rep_scr h
    subst e
    exact .lst h1 (ints_dp ns)
  | .dct _ _, _, _, n, q, _ => by cases n <;> cases q
  | .obj _ _, _, _, n, q, _ => by cases n <;> cases q
  | .unk, _, _, n, q, _ => by cases n <;> cases q
  | .fdc _ _, _, _, n, q, _ => by cases n <;> cases q
theorem reps_dp : ∀ {ts : List T} {S : AS} {vs : List V} {n : Nat}, dats n ts = true → Reps K CL H ts S vs → DpAll K H vs (toDs ts)
  | [], _, _, _, _, h => by cases h; exact .nil
  | t :: ts, S, vs, n, q, h => by
    obtain ⟨v, r, e, h1, h2⟩ := h
    subst e
    have q' : dat n t = true ∧ dats n ts = true := by simpa [dats] using q
    exact .cons (rep_dp q'.1 h1) (reps_dp q'.2 h2)
theorem ints_dp : ∀ (ns : List Int), DpAll K H (ns.map V.int) (ns.map PyData.int)
  | [] => .nil
  | n :: ns => .cons (.int n) (ints_dp ns)
end
theorem ints_lay : ∀ (ns : List Int), PyData.canLayAll0 (ns.map PyData.int) = true
  | [] => rfl
  | n :: ns => by
    show (PyData.canLay0 (.int n) && PyData.canLayAll0 (ns.map PyData.int)) = true
    rw [ints_lay ns]; simp [PyData.canLay0]
theorem ints_dep : ∀ (ns : List Int), PyData.depthAll (ns.map PyData.int) = 0
  | [] => rfl
  | n :: ns => by
    show max (PyData.depth (.int n)) (PyData.depthAll (ns.map PyData.int)) = 0
    rw [ints_dep ns]; simp [PyData.depth]
mutual
theorem dat_lay : ∀ {t : T} {n : Nat}, dat n t = true → PyData.canLay0 (toD t) = true ∧ (toD t).depth ≤ n
  | .non, _, _ => by simp [toD, PyData.canLay0, PyData.depth]
  | .bl b, _, _ => by simp [toD, PyData.canLay0, PyData.depth]
  | .int i, _, _ => by simp [toD, PyData.canLay0, PyData.depth]
  | .str x, n, q => by
    have q' : PyData.strOk x = true := by cases n <;> simpa [dat] using q
    simp [toD, PyData.canLay0, PyData.depth, q']
  | .tup ts, n, q => by
    cases n with
    | zero => cases q
    | succ n =>
      have h := dats_lay (n := n) (ts := ts) (by simpa [dat] using q)
      simp only [toD, PyData.canLay0, PyData.depth]
      exact ⟨h.1, by omega⟩
  | .lst ts, n, q => by
    cases n with
    | zero => cases q
    | succ n =>
      have h := dats_lay (n := n) (ts := ts) (by simpa [dat] using q)
      simp only [toD, PyData.canLay0, PyData.depth]
      exact ⟨h.1, by omega⟩
  | .scr ns, n, q => by
    cases n with
    | zero => cases q
    | succ n =>
      simp only [toD, PyData.canLay0, PyData.depth, ints_lay, ints_dep]
      exact ⟨trivial, by omega⟩
  | .dct _ _, n, q => by cases n <;> cases q
  | .obj _ _, n, q => by cases n <;> cases q
theorem dats_lay : ∀ {ts : List T} {n : Nat}, dats n ts = true → PyData.canLayAll0 (toDs ts) = true ∧ PyData.depthAll (toDs ts) ≤ n
  | [], _, _ => by simp [toDs, PyData.canLayAll0, PyData.depthAll]
  | t :: ts, n, q => by
    have q' : dat n t = true ∧ dats n ts = true := by simpa [dats] using q
    have h1 := dat_lay q'.1
    have h2 := dats_lay q'.2
    simp only [toDs, PyData.canLayAll0, PyData.depthAll, h1.1, h2.1]
    exact ⟨rfl, by omega⟩
end
theorem dat_shaped {t : T} (h : dat 60 t = true) : SeqAt.shaped (toD t) = true := by
  have q := dat_lay h
  show (PyData.canLay0 _ && decide (PyData.depth _ ≤ 64)) = true
  rw [q.1, decide_eq_true (by omega)]; rfl
theorem dats_shaped {ts : List T} (h : dats 60 ts = true) : SeqAt.shaped (.list (toDs ts)) = true := by
  have q := dats_lay h
  show (PyData.canLay0 _ && decide (PyData.depth _ ≤ 64)) = true
  rw [Bool.and_eq_true]
  exact ⟨by simp only [PyData.canLay0]; exact q.1, decide_eq_true (by simp only [PyData.depth]; omega)⟩
theorem toDs_any (ts : List T) (a : T) : (toDs ts).any (fun z => PyData.eqv z (toD a)) = ts.any fun z => teq z a := by
  induction ts with
  | nil => rfl
  | cons t ts ih => simp only [toDs, List.any_cons, ih]; rfl
theorem asInts_eq : ∀ {ts : List T} {ns : List Int}, asInts ts = some ns → ts = ns.map T.int
  | [], ns, h => by cases h; rfl
  | .int i :: r, ns, h => by
    simp only [asInts, Option.map_eq_some_iff] at h
    obtain ⟨m, h1, rfl⟩ := h
    rw [asInts_eq h1]; rfl
  | .non :: r, ns, h => by cases h
  | .bl _ :: r, ns, h => by cases h
  | .str _ :: r, ns, h => by cases h
  | .tup _ :: r, ns, h => by cases h
  | .lst _ :: r, ns, h => by cases h
  | .scr _ :: r, ns, h => by cases h
  | .dct _ _ :: r, ns, h => by cases h
  | .obj _ _ :: r, ns, h => by cases h
theorem asBls_eq : ∀ {ts : List T} {ns : List Bool}, asBls ts = some ns → ts = ns.map T.bl
  | [], ns, h => by cases h; rfl
  | .bl i :: r, ns, h => by
    simp only [asBls, Option.map_eq_some_iff] at h
    obtain ⟨m, h1, rfl⟩ := h
    rw [asBls_eq h1]; rfl
  | .non :: r, ns, h => by cases h
  | .int _ :: r, ns, h => by cases h
  | .str _ :: r, ns, h => by cases h
  | .tup _ :: r, ns, h => by cases h
  | .lst _ :: r, ns, h => by cases h
  | .scr _ :: r, ns, h => by cases h
  | .dct _ _ :: r, ns, h => by cases h
  | .obj _ _ :: r, ns, h => by cases h
theorem Reps.atI {ts : List T} {S : AS} {vs : List V} {i : Int} {t : T} (h : Reps K CL H ts S vs) (q : L2.atI ts i = some t) : ∃ v, L2.atI vs i = some v ∧ Rep K CL H t S v := by
  unfold L2.atI at q ⊢
  rw [h.len]
  cases e : ixN ts.length i with
  | none => rw [e] at q; cases q
  | some j =>
    rw [e] at q
    exact h.get q
theorem Reps.cut {ts : List T} {S : AS} {vs : List V} (lo hi : Option Int) (h : Reps K CL H ts S vs) : Reps K CL H (cutL ts lo hi) S (cutV vs lo hi) := by
  unfold cutL cutV
  rw [h.len]
  exact (h.drop _).take _
theorem cutL_len {α : Type} (xs : List α) (lo hi : Option Int) : (cutL xs lo hi).length ≤ xs.length := by
  unfold cutL
  rw [List.length_take, List.length_drop]
  omega
theorem cutV_ints (ns : List Int) (lo hi : Option Int) : cutV (ns.map V.int) lo hi = (cutL ns lo hi).map V.int := by
  unfold cutL cutV
  rw [List.length_map, ← List.map_drop, ← List.map_take]
theorem Reps.flat {ts : List T} {S : AS} {vs : List V} (h : Reps K CL H ts S vs) : ∀ n : Nat, Reps K CL H (List.replicate n ts).flatten S (List.replicate n vs).flatten
  | 0 => rfl
  | n + 1 => by
    rw [List.replicate_succ, List.replicate_succ, List.flatten_cons, List.flatten_cons]
    exact h.append (Reps.flat h n)
end
end Sb
namespace Sb
open PySem L2
open Evl (Ex Ex.refl Ex.trans Ex.new)
theorem bind2 {α β γ : Type} {x : Option α} {y : Option β} {f : α → β → Option γ} {z : γ} (h : (x.bind fun a => y.bind fun b => f a b) = some z) : ∃ a b, x = some a ∧ y = some b ∧ f a b = some z := by
  cases x with
  | none => cases h
  | some a => cases y with
    | none => cases h
    | some b => exact ⟨a, b, rfl, rfl, h⟩
theorem bind1 {α γ : Type} {x : Option α} {f : α → Option γ} {z : γ} (h : (x.bind f) = some z) : ∃ a, x = some a ∧ f a = some z := by
  cases x with
  | none => cases h
  | some a => exact ⟨a, rfl, h⟩
theorem map1 {α γ : Type} {x : Option α} {f : α → γ} {z : γ} (h : (x.map f) = some z) : ∃ a, x = some a ∧ f a = z := by
  cases x with
  | none => cases h
  | some a => exact ⟨a, rfl, Option.some.inj h⟩
theorem ite1 {γ : Type} {c : Prop} [Decidable c] {a z : γ} (h : (if c then some a else none) = some z) : c ∧ a = z := by
  by_cases hc : c
  · rw [if_pos hc] at h; exact ⟨hc, Option.some.inj h⟩
  · rw [if_neg hc] at h; cases h
theorem fre_of {H : Hp} {t : T} {v : V} (h : mutR t = false) : Fre H t v := fun z => by rw [h] at z; cases z
/-- a promise by a function on trees -/
def spF (K : PySem.W.Frag) (CL : Nat → Addr × List Str) (φ : List T → Option R) : Sp := fun vs H Q E => ∃ ts r, Reps K CL H ts (fun _ => True) vs ∧ φ ts = some r ∧
  (∀ t, r = .val t → ∀ v H', Ex H H' → Rep K CL H' t (fun a => H a = none) v → Q v H') ∧ (∀ c, r = .exc c → ∀ H', Ex H H' → E (.ref (CL c).1) none H') ∧ (∀ t, r = .wkv t → ∀ v H' S, Ex H H' → Rep K CL H' t S v → Q v H')
def bNames : List Str := ["len", "sum", "all", "any", "abs", "max", "min", "int", "list", "tuple", "sorted", "range", "enumerate", "zip", "isinstance", "bool", "str", "dict", "set"]
/-- a promise of an __init__ that sets the one field -/
def spI (K : PySem.W.Frag) (CL : Nat → Addr × List Str) (c : Nat) (f : Str) (φ : List T → Option R) : Sp := fun vs H Q E => ∃ x dx us ts t, vs = .ref x :: us ∧ dx ≠ x ∧ H x = some (.ins (CL c).1 dx []) ∧ Reps K CL H ts (fun a => a ≠ x) us ∧
  φ ts = some (.val (.obj c [t])) ∧ ∀ v H', Ex H H' → Rep K CL H' t (fun a => H a = none) v → Q .non (upd H' x (.ins (CL c).1 dx [(f, v)]))
/-- what a class without an __init__ must have -/
structure Mk0 (K : PySem.W.Frag) (C : Addr) : Prop where
  makes : PySem.W.makesIn K C = true
  init : PySem.W.findIn K (.ref C) "__init__" = some (some (.builtin "object.__init__"))
  kp : PySem.W.keepIn K (.ref C) = true
/-- what isinstance asks of an own class's instances -/
structure InsD (K : PySem.W.Frag) (C : Addr) : Prop where
  cl : Cls K C
  ha : PySem.W.findIn K (.ref C) "__class__" = some (some (.builtin "object.__class__"))
  hn : PySem.W.specialIn K (.builtin "object.__class__") "__get__" = some (some (.builtin "getset_descriptor.__get__"))
  htk : PySem.W.takesIn K (.builtin "object.__class__") = some true
  hm : PySem.W.mroIn K C (.type "object") = some true
/-- what the context must bring -/
structure Tb (X : Cx) (CL : Nat → Addr × List Str) (nm : Nm) (gv : Nat → Option Int) (Φ : Nat → List T → Option R) : Prop where
  calm : X.calm = true
  nd : X.N.Nodup
  room : X.A.units + 65 < cLine
  blt : ∀ x ∈ bNames, X.mg x = none
  gl : ∀ g i, gv g = some i → ∃ t, X.mg (nm.gl g) = some (.int i t)
  kin : ∀ c d b, nm.kin c d = some b → InsD X.K (CL d).1 ∧ X.mg (nm.cl c) = some (.ref (CL c).1) ∧ PySem.W.kitOne X.K (.ref (CL d).1) (.ref (CL c).1) = some b
  fld : ∀ c, nm.fl c ≠ "" → Cls X.K (CL c).1 ∧ NoAttr X.K (CL c).1 (nm.fl c) ∧ (CL c).2 = [nm.fl c]
  mkc : ∀ c ts r, c < 100 → Φ (10000 + c) ts = some r → X.mg (nm.cl c) = some (.ref (CL c).1) ∧
    ((∃ k f fd ps t, r = .val (.obj c [t]) ∧ (CL c).2 = [nm.fl c] ∧ Mk X.K (CL c).1 f ∧ Binds X.K fd ps [] ∧ Room (k + 1) X.A ∧ ts ≠ [] ∧ FnOk X.prog X.w X.K X.mg X.base (L2.CX X.prog X.w) k f fd ps (spI X.K CL c (nm.fl c) (Φ (10000 + c)))) ∨
      (ts = [] ∧ r = .val (.obj c []) ∧ Mk0 X.K (CL c).1 ∧ (CL c).2 = []))
  mt : ∀ c us ts r, Φ (20000 + c) (.obj c us :: ts) = some r → ∃ k f fd ps, Cls X.K (CL c).1 ∧ Meth X.K (CL c).1 "shows" f ∧ ("shows" : Str) ∉ (CL c).2 ∧ Binds X.K fd ps [] ∧ Room k X.A ∧ FnOk X.prog X.w X.K X.mg X.base (L2.CX X.prog X.w) k f fd ps (spF X.K CL (Φ (20000 + c)))
  fn : ∀ f ts r, f < 10000 → Φ f ts = some r → ∃ k fa fd ps, X.mg (nm.fn f) = some (.ref fa) ∧ PySem.W.keepIn X.K (.ref fa) = true ∧ Binds X.K fd ps [] ∧ Room k X.A ∧ FnOk X.prog X.w X.K X.mg X.base (L2.CX X.prog X.w) k fa fd ps (spF X.K CL (Φ f))
section
variable {X : Cx} {CL : Nat → Addr × List Str} {nm : Nm} {gv : Nat → Option Int} {Φ : Nat → List T → Option R} {fl : Fl} {H0 : Hp} {pos : Pos}
theorem e_var {i : Nat} {x : Str} (hN : X.N[i]? = some x) (hv : Vis X.env.scope x) (hd : (x == ("__debug__" : Str)) = false) (hcd : (x == ("__classdict__" : Str)) = false) :
    PE X (.Name x pos) (RE X.K CL fl H0 (ev gv Φ (.var i)) (at_ fl (.var i))) := by
  refine ⟨fun pins s σ H Q I h => ?_⟩
  obtain ⟨env, O, t, ok, hf, q⟩ := h
  have hf' : env[i]? = some (some t) := by simpa [ev, Option.join_eq_some_iff] using hf
  obtain ⟨v, h1, h2, h3⟩ := ok.sl i t hf'
  refine (pe_var hN hv hd hcd).run pins s σ H Q I ⟨v, h1, q v H (Ex.refl H) (h2.mono ?_) ?_⟩
  · intro b hb
    exact ⟨fun g o => List.mem_singleton.2 (hb.1 g o), fun n => hb.2 n⟩
  · intro fr; cases fr
/-- a constant value -/
theorem e_con {e : Expr} {t : T} {v : V} {a : At} (h : PE X e (tC v)) (hr : ∀ H S, Rep X.K CL H t S v) (hm : mutR t = false) : PE X e (RE X.K CL fl H0 (fun _ => some t) a) := by
  refine ⟨fun pins s σ H Q I hw => ?_⟩
  obtain ⟨env, O, t', ok, hf, q⟩ := hw
  cases hf
  exact h.run pins s σ H Q I (q v H (Ex.refl H) (hr _ _) fun _ => fre_of hm)
theorem e_cint {i : Int} {k : Nat} : PE X (.Constant (.int i) k pos) (RE X.K CL fl H0 (ev gv Φ (.cint i)) (at_ fl (.cint i))) := by
  have := e_con (X := X) (CL := CL) (fl := fl) (H0 := H0) (t := .int i) (a := at_ fl (.cint i)) (pe_int (X := X) (i := i) (j := k) (pos := pos)) (fun _ _ => rfl) rfl
  simpa only [ev] using this
theorem e_cbl {i : Bool} {k : Nat} : PE X (.Constant (.bool i) k pos) (RE X.K CL fl H0 (ev gv Φ (.cbl i)) (at_ fl (.cbl i))) := by
  have := e_con (X := X) (CL := CL) (fl := fl) (H0 := H0) (t := .bl i) (a := at_ fl (.cbl i)) (pe_bl (X := X) (b := i) (j := k) (pos := pos)) (fun _ _ => rfl) rfl
  simpa only [ev] using this
theorem e_cnon {k : Nat} : PE X (.Constant .none k pos) (RE X.K CL fl H0 (ev gv Φ .cnon) (at_ fl .cnon)) := by
  have := e_con (X := X) (CL := CL) (fl := fl) (H0 := H0) (t := .non) (a := at_ fl .cnon) (pe_non (X := X) (j := k) (pos := pos)) (fun _ _ => rfl) rfl
  simpa only [ev] using this
theorem e_cstr {i : String} {k : Nat} : PE X (.Constant (.str i) k pos) (RE X.K CL fl H0 (ev gv Φ (.cstr i)) (at_ fl (.cstr i))) := by
  have := e_con (X := X) (CL := CL) (fl := fl) (H0 := H0) (t := .str i) (a := at_ fl (.cstr i)) (pe_str (X := X) (x := (i : Str)) (j := k) (pos := pos)) (fun _ _ => rfl) rfl
  simpa only [ev] using this
theorem e_glob (hT : Tb X CL nm gv Φ) {g : Nat} {x : Str} (hx : nm.gl g = x) (hg : Gl X x) (hd : (x == ("__debug__" : Str)) = false) : PE X (.Name x pos) (RE X.K CL fl H0 (ev gv Φ (.glob g)) (at_ fl (.glob g))) := by
  refine ⟨fun pins s σ H Q I hw => ?_⟩
  obtain ⟨env, O, t', ok, hf, q⟩ := hw
  simp only [ev] at hf
  obtain ⟨i, h1, rfl⟩ := map1 hf
  obtain ⟨tk, hm⟩ := hT.gl g i h1
  subst hx
  exact (pe_glob (v := .int i) hg hm ⟨_, rfl⟩ hd).run pins s σ H Q I (q _ H (Ex.refl H) rfl fun _ => fre_of rfl)
/-- two operands -/
theorem e_two {a b : E} {pa pb : Expr} {op : PySem.Operator} {pins : List (Addr × Obj)} {s : Shared} {σ : L2.St} {H : Hp} {Q : VK} {env : Env} {O : AR} {x y : T}
    (ha : PE X pa (RE X.K CL fl H0 (ev gv Φ a) (at_ fl a))) (hb : PE X pb (RE X.K CL fl H0 (ev gv Φ b) (at_ fl b))) (I : Inv X pins σ H s) (ok : Ok X.K CL H0 fl env σ H O) (hx : ev gv Φ a env = some x) (hy : ev gv Φ b env = some y)
    {r : R2} (ho : OpR X (binaryOp op) r) (hr : ∀ v u H2, Ex H H2 → Rep X.K CL H2 x (SS O env σ (at_ fl a).ret H0 (at_ fl a).nw) v → Rep X.K CL H2 y (SS O env σ (at_ fl b).ret H0 (at_ fl b).nw) u → r v u H2 Q) :
    wpAny (model X.prog X.w) X.A (eval (.BinOp pa op pb pos) X.env) (EP X pins σ Q) X.xe s :=
  (pe_op ho ha hb).run pins s σ H Q I ⟨env, O, x, ok, hx, fun v H1 e1 r1 _ => ⟨env, O, y, ok.exd e1, hy, fun u H2 e2 r2 _ => hr v u H2 (e1.trans e2) (r1.ex e2) r2⟩⟩
theorem join_l (a b : At) : ∀ i ∈ a.ret, i ∈ (a.join b).ret := fun i h => List.mem_append_left _ h
theorem join_r (a b : At) : ∀ i ∈ b.ret, i ∈ (a.join b).ret := fun i h => List.mem_append_right _ h
theorem join_nl (a b : At) : (a.join b).nw = true → a.nw = true := fun h => (Bool.and_eq_true _ _ ▸ h : a.nw = true ∧ b.nw = true).1
theorem join_nr (a b : At) : (a.join b).nw = true → b.nw = true := fun h => (Bool.and_eq_true _ _ ▸ h : a.nw = true ∧ b.nw = true).2
def CMulB (i j : Int) : Prop := i.natAbs.log2 + j.natAbs.log2 < 100000000
theorem CMulB.ok {i j : Int} (h : CMulB i j) : IntMulOk i j := by
  have b : ∀ x : Int, Builtin.Int.intBits x ≤ x.natAbs.log2 + 1 := fun x => by
    unfold Builtin.Int.intBits
    split <;> omega
  have h1 := b i
  have h2 := b j
  have h3 : i.natAbs.log2 + j.natAbs.log2 < 100000000 := h
  have e : bitsLine = 134217728 := by decide
  unfold IntMulOk
  intro z
  rw [Bool.and_eq_true] at z
  have z2 := z.2
  unfold Builtin.Int.intTooBig at z2
  have z3 := of_decide_eq_true z2
  rw [e] at z3
  omega
def CDivB (_ j : Int) : Prop := 0 < j ∧ j.natAbs.log2 < 9000
theorem op_fdivB : OpR X (binaryOp .FloorDiv) (rI CDivB fun i j => .int (i / j)) := opI fun i j _ _ _ _ _ hc q => by
  have h1 : (0 : Int) < j := hc.1
  exact PyProof.Rows.floordiv_int (by omega) (by rw [Int.fdiv_eq_ediv_of_nonneg i (by omega)]; exact q) (.inl (PyProof.noPylong_of_log2 hc.2))
theorem op_mulB : OpR X (binaryOp .Mult) (rI CMulB fun i j => .int (i * j)) := opI fun _ _ _ _ _ _ _ hc q => PyProof.Rows.mul_int q hc.ok
theorem binT_int {op : Bop} {x y t : T} {i : Int} (hx : x = .int i) (h : binT op x y = some t) : ∃ k, t = .int k := by
  subst hx
  cases op <;> cases y <;> first | (cases h; exact ⟨_, rfl⟩) | (cases h; done) | (obtain ⟨_, rfl⟩ := ite1 h; exact ⟨_, rfl⟩)
theorem bltT_int {b : Bi} {ts : List T} {t : T} (hb : isI (.blt b .nil) = true) (h : bltT b ts = some t) : ∃ k, t = .int k := by
  unfold bltT at h
  split at h <;> first | (cases hb; done) | (cases h; exact ⟨_, rfl⟩) | (obtain ⟨_, _, rfl⟩ := map1 h; exact ⟨_, rfl⟩) | (obtain ⟨_, _, h2⟩ := bind1 h; obtain ⟨_, _, rfl⟩ := map1 h2; exact ⟨_, rfl⟩) | (cases h; done)
theorem isI_int : ∀ {e : E} {env : Env} {t : T}, isI e = true → ev gv Φ e env = some t → ∃ k, t = .int k
  | .cint i, env, t, _, h => by simp only [ev] at h; cases h; exact ⟨_, rfl⟩
  | .glob g, env, t, _, h => by simp only [ev] at h; obtain ⟨_, _, rfl⟩ := map1 h; exact ⟨_, rfl⟩
  | .neg a, env, t, _, h => by
    simp only [ev] at h
    obtain ⟨x, _, h⟩ := bind1 h
    cases x <;> first | (cases h; exact ⟨_, rfl⟩) | (cases h; done)
  | .bin op a b, env, t, hi, h => by
    simp only [ev] at h
    obtain ⟨x, y, hx, hy, h⟩ := bind2 h
    have other : ∀ {op : Bop}, op ≠ .add → op ≠ .mul → binT op x y = some t → ∃ k, t = .int k := fun {op} h1 h2 h => by
      cases op <;> first | exact absurd rfl h1 | exact absurd rfl h2 | (cases x <;> cases y <;> first | (cases h; exact ⟨_, rfl⟩) | (cases h; done) | (obtain ⟨_, rfl⟩ := ite1 h; exact ⟨_, rfl⟩))
    cases op with
    | add =>
      have hi' : isI a = true ∨ isI b = true := by simpa [isI] using hi
      rcases hi' with hi' | hi'
      · obtain ⟨i, rfl⟩ := isI_int (e := a) hi' hx
        exact binT_int rfl h
      · obtain ⟨i, rfl⟩ := isI_int (e := b) hi' hy
        cases x <;> first | (cases h; exact ⟨_, rfl⟩) | (cases h; done)
    | mul =>
      obtain ⟨i, rfl⟩ := isI_int (e := a) (by simpa [isI] using hi) hx
      exact binT_int rfl h
    | sub => exact other (op := .sub) (by decide) (by decide) h
    | fdiv => exact other (op := .fdiv) (by decide) (by decide) h
    | mod => exact other (op := .mod) (by decide) (by decide) h
    | pow => exact other (op := .pow) (by decide) (by decide) h
    | shr => exact other (op := .shr) (by decide) (by decide) h
  | .blt b es, env, t, hi, h => by
    simp only [ev] at h
    obtain ⟨ts, _, h⟩ := bind1 h
    exact bltT_int (by cases b <;> first | rfl | cases hi) h
theorem e_bin {op : Bop} {a b : E} {pa pb : Expr} (ha : PE X pa (RE X.K CL fl H0 (ev gv Φ a) (at_ fl a))) (hb : PE X pb (RE X.K CL fl H0 (ev gv Φ b) (at_ fl b))) :
    PE X (.BinOp pa op.py pb pos) (RE X.K CL fl H0 (ev gv Φ (.bin op a b)) (at_ fl (.bin op a b))) := by
  refine ⟨fun pins s σ H Q I h => ?_⟩
  obtain ⟨env, O, t, ok, hf, q⟩ := h
  simp only [ev] at hf
  obtain ⟨x, y, hx, hy, hz⟩ := bind2 hf
  have ml := ss_mono (O := O) (env := env) (σ := σ) (H0 := H0) (join_l (at_ fl a) (at_ fl b)) (join_nl (at_ fl a) (at_ fl b))
  have mr := ss_mono (O := O) (env := env) (σ := σ) (H0 := H0) (join_r (at_ fl a) (at_ fl b)) (join_nr (at_ fl a) (at_ fl b))
  have q' : ∀ v H', Ex H H' → Rep X.K CL H' t (SS O env σ ((at_ fl a).join (at_ fl b)).ret H0 ((at_ fl a).join (at_ fl b)).nw) v → Fre H t v → Q v H' := fun v H' e r f => by
    by_cases hI : isI (.bin op a b) = true
    · obtain ⟨z, hz'⟩ := isI_int (gv := gv) (Φ := Φ) (env := env) (t := t) hI (by simp only [ev]; exact hf)
      subst hz'
      exact q v H' e r fun _ => f
    · refine q v H' e ?_ fun _ => f
      have ea : at_ fl (.bin op a b) = ⟨((at_ fl a).join (at_ fl b)).ret, ((at_ fl a).join (at_ fl b)).nw, true⟩ := by
        rw [at_, if_neg hI]
      rw [ea]
      exact r
  have qi : ∀ {z : Int} {H2 : Hp}, t = .int z → Ex H H2 → Q (.int z) H2 := fun {z H2} e e2 => by
    subst e
    exact q' _ H2 e2 rfl (fre_of rfl)
  match op, x, y, hz with
  | .add, .int i, .int j, hz =>
    cases hz
    exact e_two ha hb I ok hx hy op_add fun v u H2 e2 r1 r2 => ⟨i, j, r1, r2, qi rfl e2⟩
  | .add, .lst as, .lst bs, hz =>
    obtain ⟨hl, rfl⟩ := ite1 hz
    refine e_two ha hb I ok hx hy op_cat fun v u H2 e2 r1 r2 => ?_
    obtain ⟨l, vs, rfl, h1, _, h2, _⟩ := rep_lst r1
    obtain ⟨m, ws, rfl, h3, _, h4, _⟩ := rep_lst r2
    refine ⟨l, m, vs, ws, rfl, rfl, h1, h3, by rw [h2.len, h4.len]; exact lim_line hl, fun p hp => ?_⟩
    refine q' _ _ (e2.trans (Ex.new hp)) (new_lst (ok.exd e2) hp (by rw [List.length_append]; exact hl) ((h2.mono ml).append (h4.mono mr))) fun _ => ⟨p, rfl, ex_none e2 hp⟩
  | .add, .tup as, .tup bs, hz =>
    obtain ⟨hl, rfl⟩ := ite1 hz
    refine e_two ha hb I ok hx hy op_catA fun v u H2 e2 r1 r2 => ?_
    obtain ⟨l, vs, rfl, h1, h2, _⟩ := rep_tup r1
    obtain ⟨m, ws, rfl, h3, h4, _⟩ := rep_tup r2
    have hl1 := h2.len
    have hl2 := h4.len
    refine ⟨l, m, vs, ws, rfl, rfl, h1, h3, by rw [h2.len, h4.len]; exact lim_line hl, fun z => ?_, fun _ z => ?_, fun _ _ p hp => ?_⟩
    · subst z
      have z : as = [] := List.length_eq_zero_iff.mp hl1.symm
      subst z
      exact q' _ H2 e2 (r2.mono mr) (fre_of rfl)
    · subst z
      have z : bs = [] := List.length_eq_zero_iff.mp hl2.symm
      subst z
      refine q' _ H2 e2 ?_ (fre_of rfl)
      rw [List.append_nil]
      exact r1.mono ml
    · exact q' _ _ (e2.trans (Ex.new hp)) (new_tup hp (by rw [List.length_append]; exact hl) ((h2.mono ml).append (h4.mono mr))) (fre_of rfl)
  | .sub, .int i, .int j, hz =>
    cases hz
    exact e_two ha hb I ok hx hy op_sub fun v u H2 e2 r1 r2 => ⟨i, j, r1, r2, qi rfl e2⟩
  | .mul, .int i, .int j, hz =>
    obtain ⟨hl, rfl⟩ := ite1 hz
    exact e_two ha hb I ok hx hy op_mulB fun v u H2 e2 r1 r2 => ⟨i, j, r1, r2, (of_decide_eq_true hl : i.natAbs.log2 + j.natAbs.log2 < 100000000), qi rfl e2⟩
  | .mul, .lst as, .int k, hz =>
    obtain ⟨⟨k0, k1, hl⟩, rfl⟩ := ite1 hz
    refine e_two ha hb I ok hx hy op_rep fun v u H2 e2 r1 r2 => ?_
    obtain ⟨l, vs, rfl, h1, _, h2, _⟩ := rep_lst r1
    refine ⟨l, k, vs, rfl, r2, h1, by omega, by omega, by rw [h2.len]; exact lim_line hl, fun p hp => ?_⟩
    refine q' _ _ (e2.trans (Ex.new hp)) (new_lst (ok.exd e2) hp ?_ ((h2.mono ml).flat _)) fun _ => ⟨p, rfl, ex_none e2 hp⟩
    rw [List.length_flatten, List.map_replicate, List.sum_replicate_nat, Nat.mul_comm]; exact hl
  | .fdiv, .int i, .int j, hz =>
    obtain ⟨hl, rfl⟩ := ite1 hz
    exact e_two ha hb I ok hx hy op_fdivB fun v u H2 e2 r1 r2 => ⟨i, j, r1, r2, hl, qi rfl e2⟩
  | .mod, .int i, .int j, hz =>
    obtain ⟨hl, rfl⟩ := ite1 hz
    exact e_two ha hb I ok hx hy op_mod fun v u H2 e2 r1 r2 => ⟨i, j, r1, r2, hl, qi rfl e2⟩
  | .pow, .int i, .int j, hz =>
    obtain ⟨hl, rfl⟩ := ite1 hz
    exact e_two ha hb I ok hx hy op_pow fun v u H2 e2 r1 r2 => ⟨i, j, r1, r2, hl, qi rfl e2⟩
  | .shr, .int i, .int j, hz =>
    obtain ⟨hl, rfl⟩ := ite1 hz
    exact e_two ha hb I ok hx hy op_shr fun v u H2 e2 r1 r2 => ⟨i, j, r1, r2, hl, qi rfl e2⟩
theorem e_neg {a : E} {pa : Expr} (ha : PE X pa (RE X.K CL fl H0 (ev gv Φ a) (at_ fl a))) : PE X (.UnaryOp .USub pa pos) (RE X.K CL fl H0 (ev gv Φ (.neg a)) (at_ fl (.neg a))) := by
  refine ⟨fun pins s σ H Q I h => ?_⟩
  obtain ⟨env, O, t, ok, hf, q⟩ := h
  simp only [ev] at hf
  obtain ⟨x, hx, hz⟩ := bind1 hf
  match x, hz with
  | .int i, hz =>
    cases hz
    exact (pe_un un_neg ha).run pins s σ H Q I ⟨env, O, _, ok, hx, fun v H1 e1 r1 _ => ⟨i, r1, q _ H1 e1 rfl fun _ => fre_of rfl⟩⟩
theorem e_not {a : E} {pa : Expr} (ha : PE X pa (RE X.K CL fl H0 (ev gv Φ a) (at_ fl a))) : PE X (.UnaryOp .Not pa pos) (RE X.K CL fl H0 (ev gv Φ (.not a)) (at_ fl (.not a))) := by
  refine ⟨fun pins s σ H Q I h => ?_⟩
  obtain ⟨env, O, t, ok, hf, q⟩ := h
  simp only [ev] at hf
  obtain ⟨x, hx, hz⟩ := bind1 hf
  match x, hz with
  | .bl i, hz =>
    cases hz
    exact (pe_not ha).run pins s σ H Q I ⟨env, O, _, ok, hx, fun v H1 e1 r1 _ => ⟨i, r1, q _ H1 e1 rfl fun _ => fre_of rfl⟩⟩
theorem isB_eq {x t : T} (h : isB x = some t) : ∃ c, x = .bl c ∧ t = .bl c := by
  match x, h with
  | .bl c, h => exact ⟨c, rfl, (Option.some.inj h).symm⟩
theorem e_and {a b : E} {pa pb : Expr} {rest : List Expr} (ha : PE X pa (RE X.K CL fl H0 (ev gv Φ a) (at_ fl a))) (hb : PE X (.BoolOp .And (pb :: rest) pos) (RE X.K CL fl H0 (ev gv Φ b) (at_ fl b))) :
    PE X (.BoolOp .And (pa :: pb :: rest) pos) (RE X.K CL fl H0 (ev gv Φ (.and a b)) (at_ fl (.and a b))) := by
  refine ⟨fun pins s σ H Q I h => ?_⟩
  obtain ⟨env, O, t, ok, hf, q⟩ := h
  simp only [ev] at hf
  obtain ⟨x, hx, hz⟩ := bind1 hf
  match x, hz with
  | .bl true, hz =>
    obtain ⟨y, hy, hz⟩ := bind1 hz
    obtain ⟨c, rfl, rfl⟩ := isB_eq hz
    exact (pe_and ha hb).run pins s σ H Q I ⟨env, O, _, ok, hx, fun v H1 e1 r1 _ => ⟨true, r1, iteT ⟨env, O, _, ok.exd e1, hy, fun u H2 e2 r2 _ => by
      cases r2
      exact q _ H2 (e1.trans e2) rfl fun _ => fre_of rfl⟩⟩⟩
  | .bl false, hz =>
    cases hz
    exact (pe_and ha hb).run pins s σ H Q I ⟨env, O, _, ok, hx, fun v H1 e1 r1 _ => ⟨false, r1, iteF (q _ H1 e1 rfl fun _ => fre_of rfl)⟩⟩
theorem e_or {a b : E} {pa pb : Expr} {rest : List Expr} (ha : PE X pa (RE X.K CL fl H0 (ev gv Φ a) (at_ fl a))) (hb : PE X (.BoolOp .Or (pb :: rest) pos) (RE X.K CL fl H0 (ev gv Φ b) (at_ fl b))) :
    PE X (.BoolOp .Or (pa :: pb :: rest) pos) (RE X.K CL fl H0 (ev gv Φ (.or a b)) (at_ fl (.or a b))) := by
  refine ⟨fun pins s σ H Q I h => ?_⟩
  obtain ⟨env, O, t, ok, hf, q⟩ := h
  simp only [ev] at hf
  obtain ⟨x, hx, hz⟩ := bind1 hf
  match x, hz with
  | .bl false, hz =>
    obtain ⟨y, hy, hz⟩ := bind1 hz
    obtain ⟨c, rfl, rfl⟩ := isB_eq hz
    exact (pe_or ha hb).run pins s σ H Q I ⟨env, O, _, ok, hx, fun v H1 e1 r1 _ => ⟨false, r1, iteF ⟨env, O, _, ok.exd e1, hy, fun u H2 e2 r2 _ => by
      cases r2
      exact q _ H2 (e1.trans e2) rfl fun _ => fre_of rfl⟩⟩⟩
  | .bl true, hz =>
    cases hz
    exact (pe_or ha hb).run pins s σ H Q I ⟨env, O, _, ok, hx, fun v H1 e1 r1 _ => ⟨true, r1, iteT (q _ H1 e1 rfl fun _ => fre_of rfl)⟩⟩
theorem inl_inj : ∀ {a b : List Int}, (a.map (Sum.inl : Int → L2.Key)) = b.map Sum.inl → a = b
  | [], [], _ => rfl
  | [], _ :: _, h => by cases h
  | _ :: _, [], h => by cases h
  | x :: a, y :: b, h => by
    rw [List.map_cons, List.map_cons] at h
    injection h with h1 h2
    rw [Sum.inl.inj h1, inl_inj h2]
theorem dGet_rep {K : PySem.W.Frag} {H : Hp} {S : AS} {k : List Int} : ∀ {ks : List (List Int)} {ts : List T} {kvs : List (List L2.Key × V)}, kvs.map (·.1) = ks.map (fun k => k.map Sum.inl) → Reps K CL H ts S (kvs.map (·.2)) →
    (∀ t, dGet ks ts k = some t → ∃ v, valV kvs (k.map Sum.inl) = some v ∧ Rep K CL H t S v) ∧ (dGet ks ts k = none → valV kvs (k.map Sum.inl) = none) := by
  intro ks
  induction ks with
  | nil =>
    intro ts kvs h1 h2
    have e : kvs = [] := by simpa using h1
    subst e
    refine ⟨fun t h => ?_, fun _ => rfl⟩
    cases ts <;> simp [dGet] at h
  | cons k0 ks ih =>
    intro ts kvs h1 h2
    cases kvs with
    | nil => simp at h1
    | cons p kvs =>
      cases ts with
      | nil => cases h2
      | cons t0 ts =>
        obtain ⟨v0, r, e, r1, r2⟩ := h2
        rw [List.map_cons] at e
        injection e with e1 e2
        subst e1
        rw [← e2] at r2
        rw [List.map_cons, List.map_cons] at h1
        injection h1 with h3 h4
        obtain ⟨i1, i2⟩ := ih h4 r2
        by_cases hk : k0 = k
        · subst hk
          refine ⟨fun t h => ?_, fun h => ?_⟩
          · have h' : some t0 = some t := by simpa [dGet] using h
            cases h'
            exact ⟨_, valV_pos h3, r1⟩
          · simp [dGet] at h
        · have hne : ¬ p.1 = k.map Sum.inl := fun z => hk (inl_inj (h3.symm.trans z))
          have hd : dGet (k0 :: ks) (t0 :: ts) k = dGet ks ts k := by simp [dGet, hk]
          rw [valV_neg hne, hd]
          exact ⟨i1, i2⟩
theorem rep_key {K : PySem.W.Frag} {H : Hp} {S : AS} {us : List T} {k : List Int} {v : V} (h : Rep K CL H (.tup us) S v) (e : asInts us = some k) : ∃ b, v = .ref b ∧ H b = some (.tup ((k.map (Sum.inl : Int → L2.Key)).map kV)) := by
  obtain ⟨a, vs, e1, _, h2, _, h3⟩ := rep_tup h
  have := asInts_eq e
  subst this
  rw [h2.ints] at h3
  refine ⟨a, e1, ?_⟩
  rw [h3, List.map_map]
  rfl
theorem e_two2 {a b : E} {pa pb : Expr} {pins : List (Addr × Obj)} {s : Shared} {σ : L2.St} {H : Hp} {Q : VK} {env : Env} {O : AR} {x y : T} {op : CmpOp}
    (ha : PE X pa (RE X.K CL fl H0 (ev gv Φ a) (at_ fl a))) (hb : PE X pb (RE X.K CL fl H0 (ev gv Φ b) (at_ fl b))) (hs : isSet pb = false) (I : Inv X pins σ H s) (ok : Ok X.K CL H0 fl env σ H O) (hx : ev gv Φ a env = some x) (hy : ev gv Φ b env = some y)
    {r : R2} (ho : OpR X (compareOp op) r) (hr : ∀ v u H2 S S', Ex H H2 → Rep X.K CL H2 x S v → Rep X.K CL H2 y S' u → r v u H2 Q) :
    wpAny (model X.prog X.w) X.A (eval (.Compare pa [op] [pb] pos) X.env) (EP X pins σ Q) X.xe s :=
  (pe_cmpR ho ha hb (mark_ok hs)).run pins s σ H Q I ⟨env, O, x, ok, hx, fun v H1 e1 r1 _ => ⟨env, O, y, ok.exd e1, hy, fun u H2 e2 r2 _ => hr v u H2 _ _ (e1.trans e2) (r1.ex e2) r2⟩⟩
theorem opR_mono {f : Value → Value → Sem Value} {r r' : R2} (h : OpR X f r) (m : ∀ x y H Q, r' x y H Q → r x y H Q) : OpR X f r' := fun pins s σ H x y v u Q I r1 r2 q => h pins s σ H x y v u Q I r1 r2 (m _ _ _ _ q)
/-- the values of the trees x, y compared -/
def rCmp (K : PySem.W.Frag) (CL : Nat → Addr × List Str) (op : Cop) : R2 := fun v u H Q => ∃ x y z S S', Rep K CL H x S v ∧ Rep K CL H y S' u ∧ cmpT op x y = some z ∧ ∃ c, z = .bl c ∧ Q (.bl c) H
theorem flat_int {ns : List Int} : (ns.map V.int).all flatV = true := by
  induction ns with
  | nil => rfl
  | cons n ns ih => simp [flatV] at ih ⊢
theorem inV_int {i : Int} : ∀ {ns : List Int}, inV (.int i) (ns.map V.int) = ns.any fun z => z == i
  | [] => rfl
  | n :: ns => by
    show (eqV (.int n) (.int i) || inV (.int i) (ns.map V.int)) = ((n == i) || ns.any fun z => z == i)
    rw [inV_int]
    congr 1
def isNon : T → Bool
  | .non => true
  | _ => false
theorem non_of {K : PySem.W.Frag} {H : Hp} {t : T} {S : AS} {v : V} (h : Rep K CL H t S v) (hn : t ≠ .unk) : decide (v = .non) = isNon t := by
  cases t with
  | non => cases h; rfl
  | bl b => cases h; rfl
  | int b => cases h; rfl
  | str b => cases h; rfl
  | tup ts => obtain ⟨a, vs, e, _⟩ := h; subst e; rfl
  | lst ts => obtain ⟨a, vs, e, _⟩ := h; subst e; rfl
  | scr ts => obtain ⟨a, e, _⟩ := h; subst e; rfl
  | dct ks ts => obtain ⟨a, vs, e, _⟩ := h; subst e; rfl
  | obj ks ts => obtain ⟨a, vs, fs, e, _⟩ := h; subst e; rfl
  | unk => exact absurd rfl hn
  | fdc ks ts => obtain ⟨a, kvs, o, e, _⟩ := h; subst e; rfl
theorem cmp_is {x y : T} {c : Bool} (h : cmpT .is_ x y = some (.bl c)) : (y = .non ∧ c = isNon x ∧ x ≠ .unk) ∨ ∃ a b, x = .bl a ∧ y = .bl b ∧ c = decide (a = b) := by
  cases y with
  | non => left; refine ⟨rfl, ?_⟩; cases x <;> first | exact ⟨(T.bl.inj (Option.some.inj h)).symm, fun z => nomatch z⟩ | cases h
  | bl b => right; cases x with
    | bl a => exact ⟨a, b, rfl, rfl, (T.bl.inj (Option.some.inj h)).symm⟩
    | _ => cases h
  | _ => cases x <;> cases h
theorem cmp_isnot {x y : T} {c : Bool} (h : cmpT .isnot x y = some (.bl c)) : (y = .non ∧ (c = !isNon x) ∧ x ≠ .unk) ∨ ∃ a b, x = .bl a ∧ y = .bl b ∧ c = !decide (a = b) := by
  cases y with
  | non => left; refine ⟨rfl, ?_⟩; cases x <;> first | exact ⟨(T.bl.inj (Option.some.inj h)).symm, fun z => nomatch z⟩ | cases h
  | bl b => right; cases x with
    | bl a => exact ⟨a, b, rfl, rfl, (T.bl.inj (Option.some.inj h)).symm⟩
    | _ => cases h
  | _ => cases x <;> cases h
theorem op_cmp (hu : X.A.units + 65 < cLine) {op : Cop} (hd : op ≠ .mem) (hd' : op ≠ .nmem) : OpR X (compareOp op.py) (rCmp X.K CL op) := by
  intro pins s σ H v u vv uu Q I rv ru h
  obtain ⟨x, y, z, S, S', hx, hy, hz, c, rfl, q⟩ := h
  match op, hd, hd' with
  | .eq, _, _ =>
    obtain ⟨hc, he⟩ := ite1 hz
    rw [Bool.and_eq_true] at hc
    have e : teq x y = c := T.bl.inj he
    exact op_eqD (by omega) pins s σ H v u vv uu Q I rv ru ⟨_, _, rep_dp hc.1 hx, rep_dp hc.2 hy, dat_shaped hc.1, dat_shaped hc.2, by unfold teq at e; rw [e]; exact q⟩
  | .ne, _, _ =>
    obtain ⟨hc, he⟩ := ite1 hz
    rw [Bool.and_eq_true] at hc
    have e : (!teq x y) = c := T.bl.inj he
    exact op_neD (by omega) pins s σ H v u vv uu Q I rv ru ⟨_, _, rep_dp hc.1 hx, rep_dp hc.2 hy, dat_shaped hc.1, dat_shaped hc.2, by unfold teq at e; rw [e]; exact q⟩
  | .lt, _, _ =>
    match x, y, hz with
    | .int i, .int j, hz =>
      cases hz
      exact op_lt pins s σ H v u vv uu Q I rv ru ⟨i, j, hx, hy, q⟩
  | .le, _, _ =>
    match x, y, hz with
    | .int i, .int j, hz =>
      cases hz
      exact op_le pins s σ H v u vv uu Q I rv ru ⟨i, j, hx, hy, q⟩
  | .gt, _, _ =>
    match x, y, hz with
    | .int i, .int j, hz =>
      cases hz
      exact op_gt pins s σ H v u vv uu Q I rv ru ⟨i, j, hx, hy, q⟩
  | .ge, _, _ =>
    match x, y, hz with
    | .int i, .int j, hz =>
      cases hz
      exact op_ge pins s σ H v u vv uu Q I rv ru ⟨i, j, hx, hy, q⟩
  | .is_, _, _ =>
    rcases cmp_is hz with ⟨rfl, e, nu⟩ | ⟨a, b, rfl, rfl, e⟩
    · refine op_isN pins s σ H v u vv uu Q I rv ru ⟨hy, ?_⟩
      rw [non_of hx nu, ← e]
      exact q
    · subst e
      exact op_isBl pins s σ H v u vv uu Q I rv ru ⟨a, b, hx, hy, q⟩
  | .isnot, _, _ =>
    rcases cmp_isnot hz with ⟨rfl, e, nu⟩ | ⟨a, b, rfl, rfl, e⟩
    · refine op_notN pins s σ H v u vv uu Q I rv ru ⟨hy, ?_⟩
      rw [non_of hx nu, ← e]
      exact q
    · subst e
      exact op_notBl pins s σ H v u vv uu Q I rv ru ⟨a, b, hx, hy, q⟩
end
end Sb
namespace Sb
open PySem L2
open Evl (Ex Ex.refl Ex.trans Ex.new)
section
variable {X : Cx} {CL : Nat → Addr × List Str} {nm : Nm} {gv : Nat → Option Int} {Φ : Nat → List T → Option R} {fl : Fl} {H0 : Hp} {pos : Pos}
theorem cmpT_bl {op : Cop} {x y z : T} (h : cmpT op x y = some z) : ∃ c, z = .bl c := by
  cases op with
  | eq => obtain ⟨_, e⟩ := ite1 h; exact ⟨_, e.symm⟩
  | ne => obtain ⟨_, e⟩ := ite1 h; exact ⟨_, e.symm⟩
  | mem => obtain ⟨c, _, e⟩ := map1 h; exact ⟨_, e.symm⟩
  | nmem => obtain ⟨c, _, e⟩ := map1 h; exact ⟨_, e.symm⟩
  | is_ => cases y <;> cases x <;> first | cases h; done | exact ⟨_, (Option.some.inj h).symm⟩
  | isnot => cases y <;> cases x <;> first | cases h; done | exact ⟨_, (Option.some.inj h).symm⟩
  | _ => cases x <;> cases y <;> first | cases h; done | exact ⟨_, (Option.some.inj h).symm⟩
theorem memT_inv {x y : T} {c : Bool} (h : memT x y = some c) (hn : ∀ ks ts, y ≠ .dct ks ts) : (∃ ts, y = .lst ts ∧ dat 60 x = true ∧ dats 60 ts = true ∧ c = ts.any fun z => teq z x) ∨
    ∃ (i : Int) (ns : List Int), y = .tup (ns.map T.int) ∧ x = .int i ∧ c = ns.any fun z => z == i := by
  cases y with
  | lst ts =>
    obtain ⟨hc, e⟩ := ite1 h
    rw [Bool.and_eq_true] at hc
    exact .inl ⟨ts, rfl, hc.1, hc.2, e.symm⟩
  | tup ts =>
    cases x with
    | int i =>
      simp only [memT] at h
      cases ha : asInts ts with
      | none => rw [ha] at h; cases h
      | some ns =>
        rw [ha] at h
        rw [asInts_eq ha]
        exact .inr ⟨i, ns, rfl, rfl, (Option.some.inj h).symm⟩
    | _ => cases h
  | dct ks ts => exact absurd rfl (hn ks ts)
  | _ => cases h
/-- x in y, not a dict's -/
theorem op_mem (hu : X.A.units + 65 < cLine) : OpR X (compareOp .In) (fun v u H Q => ∃ x y c S S', Rep X.K CL H x S v ∧ Rep X.K CL H y S' u ∧ (∀ ks ts, y ≠ .dct ks ts) ∧ memT x y = some c ∧ Q (.bl c) H) := by
  intro pins s σ H v u vv uu Q I rv ru h
  obtain ⟨x, y, c, S, S', hx, hy, hn, hm, q⟩ := h
  rcases memT_inv hm hn with ⟨ts, rfl, h1, h2, rfl⟩ | ⟨i, ns, rfl, rfl, rfl⟩
  · obtain ⟨a, vs, e1, _, h3, h4, _⟩ := rep_lst hy
    refine op_inD hu pins s σ H v u vv uu Q I rv ru ⟨toD x, toDs ts, rep_dp h1 hx, ?_, dat_shaped h1, dats_shaped h2, ?_⟩
    · rw [e1]; exact .lst h3 (reps_dp h2 h4)
    · rw [toDs_any]; exact q
  · obtain ⟨a, vs, e1, h1, h2, _⟩ := rep_tup hy
    rw [h2.ints] at h1
    have hx' : v = .int i := hx
    refine op_in_seq pins s σ H v u vv uu Q I rv ru ⟨a, _, e1, .inr h1, ?_, flat_int, ?_⟩
    · rw [hx']; rfl
    · rw [hx', inV_int]; exact q
theorem op_nmem (hu : X.A.units + 65 < cLine) : OpR X (compareOp .NotIn) (fun v u H Q => ∃ x y c S S', Rep X.K CL H x S v ∧ Rep X.K CL H y S' u ∧ (∀ ks ts, y ≠ .dct ks ts) ∧ memT x y = some c ∧ Q (.bl (!c)) H) := by
  intro pins s σ H v u vv uu Q I rv ru h
  obtain ⟨x, y, c, S, S', hx, hy, hn, hm, q⟩ := h
  rcases memT_inv hm hn with ⟨ts, rfl, h1, h2, rfl⟩ | ⟨i, ns, rfl, rfl, rfl⟩
  · obtain ⟨a, vs, e1, _, h3, h4, _⟩ := rep_lst hy
    refine op_notInD hu pins s σ H v u vv uu Q I rv ru ⟨toD x, toDs ts, rep_dp h1 hx, ?_, dat_shaped h1, dats_shaped h2, ?_⟩
    · rw [e1]; exact .lst h3 (reps_dp h2 h4)
    · rw [toDs_any]; exact q
  · obtain ⟨a, vs, e1, h1, h2, _⟩ := rep_tup hy
    rw [h2.ints] at h1
    have hx' : v = .int i := hx
    refine op_notIn_seq pins s σ H v u vv uu Q I rv ru ⟨a, _, e1, .inr h1, ?_, flat_int, ?_⟩
    · rw [hx']; rfl
    · rw [hx', inV_int]; exact q
def isDct : T → Bool
  | .dct _ _ => true
  | _ => false
theorem notDct {y : T} (h : isDct y = false) : ∀ ks ts, y ≠ .dct ks ts := fun ks ts z => by rw [z] at h; cases h
theorem memT_dct {x : T} {ks : List (List Int)} {ts : List T} {c : Bool} (h : memT x (.dct ks ts) = some c) : ∃ us k, x = .tup us ∧ asInts us = some k ∧ c = (dGet ks ts k).isSome := by
  simp only [memT] at h
  match x, h with
  | .tup us, h =>
    obtain ⟨k, h1, h2⟩ := map1 h
    exact ⟨us, k, rfl, h1, h2.symm⟩
theorem dct_get {K : PySem.W.Frag} {H : Hp} {S S' : AS} {ks : List (List Int)} {ts us : List T} {k : List Int} {v u : V} (hu : Rep K CL H (.tup us) S v) (e : asInts us = some k) (hd : Rep K CL H (.dct ks ts) S' u) :
    ∃ a o, u = .ref a ∧ DGet H a v o ∧ o.isSome = (dGet ks ts k).isSome ∧ ∀ t, dGet ks ts k = some t → ∃ w, o = some w ∧ Rep K CL H t S' w := by
  obtain ⟨b, rfl, hb⟩ := rep_key hu e
  obtain ⟨a, kvs, rfl, _, h1, _, h2, h3⟩ := hd
  obtain ⟨g1, g2⟩ := dGet_rep (k := k) h2 (h3.mono fun _ q => q.1)
  refine ⟨a, _, rfl, DGet.t h1 hb, ?_, fun t ht => ?_⟩
  · cases hg : dGet ks ts k with
    | none => rw [g2 hg]; rfl
    | some t =>
      obtain ⟨w, e1, _⟩ := g1 t hg
      rw [e1]; rfl
  · obtain ⟨w, e1, e2⟩ := g1 t ht
    exact ⟨w, e1, e2⟩
/-- one comparison, for a continuation on truths -/
theorem c_cmp (hT : Tb X CL nm gv Φ) {op : Cop} {a b : E} {pa pb : Expr} {pins : List (Addr × Obj)} {s : Shared} {σ : L2.St} {H : Hp} {Q : VK} {env : Env} {O : AR} {x y : T} {c : Bool}
    (ha : PE X pa (RE X.K CL fl H0 (ev gv Φ a) (at_ fl a))) (hb : PE X pb (RE X.K CL fl H0 (ev gv Φ b) (at_ fl b))) (hs : isSet pb = false) (I : Inv X pins σ H s) (ok : Ok X.K CL H0 fl env σ H O)
    (hx : ev gv Φ a env = some x) (hy : ev gv Φ b env = some y) (hz : cmpT op x y = some (.bl c)) (q : ∀ H2, Ex H H2 → Q (.bl c) H2) :
    wpAny (model X.prog X.w) X.A (eval (.Compare pa [op.py] [pb] pos) X.env) (EP X pins σ Q) X.xe s := by
  by_cases hm : op = .mem
  · subst hm
    obtain ⟨c', h1, h2⟩ := map1 hz
    cases T.bl.inj h2
    cases hdc : isDct y with
    | false => exact e_two2 ha hb hs I ok hx hy (op_mem (CL := CL) hT.room) fun v u H2 S S' e2 r1 r2 => ⟨x, y, _, S, S', r1, r2, notDct hdc, h1, q H2 e2⟩
    | true =>
      match y, hy, h1, hdc with
      | .dct ks ts, hy, h1, _ =>
      obtain ⟨us, k, rfl, hk, rfl⟩ := memT_dct h1
      refine (pe_cmp (pc_din (by have := hT.room; omega) ha hb) (mark_ok hs)).run pins s σ H Q I ⟨env, O, _, ok, hx, fun v H1 e1 r1 _ => ⟨env, O, _, ok.exd e1, hy, fun u H2 e2 r2 _ => ?_⟩⟩
      obtain ⟨a', o, e, g, ho, _⟩ := dct_get (r1.ex e2) hk r2
      exact ⟨a', o, e, g, by rw [ho]; exact q H2 (e1.trans e2)⟩
  · by_cases hm' : op = .nmem
    · subst hm'
      obtain ⟨c', h1, h2⟩ := map1 hz
      cases T.bl.inj h2
      cases hdc : isDct y with
      | false => exact e_two2 ha hb hs I ok hx hy (op_nmem (CL := CL) hT.room) fun v u H2 S S' e2 r1 r2 => ⟨x, y, _, S, S', r1, r2, notDct hdc, h1, q H2 e2⟩
      | true =>
        match y, hy, h1, hdc with
        | .dct ks ts, hy, h1, _ =>
        obtain ⟨us, k, rfl, hk, rfl⟩ := memT_dct h1
        refine (pe_cmp (pc_dnotin (by have := hT.room; omega) ha hb) (mark_ok hs)).run pins s σ H Q I ⟨env, O, _, ok, hx, fun v H1 e1 r1 _ => ⟨env, O, _, ok.exd e1, hy, fun u H2 e2 r2 _ => ?_⟩⟩
        obtain ⟨a', o, e, g, ho, _⟩ := dct_get (r1.ex e2) hk r2
        exact ⟨a', o, e, g, by rw [ho]; exact q H2 (e1.trans e2)⟩
    · exact e_two2 ha hb hs I ok hx hy (op_cmp (CL := CL) hT.room hm hm') fun v u H2 S S' e2 r1 r2 => ⟨x, y, _, S, S', r1, r2, hz, c, rfl, q H2 e2⟩
theorem e_cmp (hT : Tb X CL nm gv Φ) {op : Cop} {a b : E} {pa pb : Expr} (ha : PE X pa (RE X.K CL fl H0 (ev gv Φ a) (at_ fl a))) (hb : PE X pb (RE X.K CL fl H0 (ev gv Φ b) (at_ fl b))) (hs : isSet pb = false) :
    PE X (.Compare pa [op.py] [pb] pos) (RE X.K CL fl H0 (ev gv Φ (.cmp op a b)) (at_ fl (.cmp op a b))) := by
  refine ⟨fun pins s σ H Q I h => ?_⟩
  obtain ⟨env, O, t, ok, hf, q⟩ := h
  simp only [ev] at hf
  obtain ⟨x, y, hx, hy, hz⟩ := bind2 hf
  obtain ⟨c, rfl⟩ := cmpT_bl hz
  exact c_cmp hT ha hb hs I ok hx hy hz fun H2 e2 => q _ H2 e2 rfl fun _ => fre_of rfl
theorem e_chn (hT : Tb X CL nm gv Φ) {op op' : Cop} {a b c : E} {pa pb pc : Expr} (ha : PE X pa (RE X.K CL fl H0 (ev gv Φ a) (at_ fl a))) (hb : PE X pb (RE X.K CL fl H0 (ev gv Φ b) (at_ fl b)))
    (hc : PE X pc (RE X.K CL fl H0 (ev gv Φ c) (at_ fl c))) (hs : isSet pc = false) (ho1 : op ≠ .mem) (ho2 : op ≠ .nmem) (ho3 : op' ≠ .mem) (ho4 : op' ≠ .nmem) :
    PE X (.Compare pa [op.py, op'.py] [pb, pc] pos) (RE X.K CL fl H0 (ev gv Φ (.chn op op' a b c)) (at_ fl (.chn op op' a b c))) := by
  refine ⟨fun pins s σ H Q I h => ?_⟩
  obtain ⟨env, O, t, ok, hf, q⟩ := h
  simp only [ev] at hf
  obtain ⟨x, y, hx, hy, hz⟩ := bind2 hf
  obtain ⟨w, hw, hz⟩ := bind1 hz
  obtain ⟨d, rfl⟩ := cmpT_bl hw
  refine (pe_chain (op_cmp (CL := CL) hT.room ho1 ho2) (op_cmp (CL := CL) hT.room ho3 ho4) ha hb hc (mark_ok hs)).run pins s σ H Q I ⟨env, O, x, ok, hx, fun v H1 e1 r1 _ => ⟨env, O, y, ok.exd e1, hy, fun u H2 e2 r2 _ => ⟨x, y, _, _, _, r1.ex e2, r2, hw, d, rfl, d, rfl, ?_⟩⟩⟩
  cases d with
  | false =>
    cases hz
    exact iteF (q _ H2 (e1.trans e2) rfl fun _ => fre_of rfl)
  | true =>
    obtain ⟨z, hz1, hz2⟩ := bind1 hz
    obtain ⟨d, rfl⟩ := cmpT_bl hz2
    exact iteT ⟨env, O, z, ok.exd (e1.trans e2), hz1, fun w H3 e3 r3 _ => ⟨y, z, _, _, _, r2.ex e3, r3, hz2, d, rfl, q _ H3 ((e1.trans e2).trans e3) rfl fun _ => fre_of rfl⟩⟩
theorem t_val {e : E} {pe : Expr} (h : PE X pe (RE X.K CL fl H0 (ev gv Φ e) (at_ fl e))) (ho : isOp pe = false) : PT X pe (RT X.K CL fl H0 (ev gv Φ e)) := by
  refine ⟨fun pins s σ H Q I hw => ?_⟩
  obtain ⟨env, O, b, ok, hf, q⟩ := hw
  exact (pt_val h (test_ok ho)).run pins s σ H Q I ⟨env, O, _, ok, hf, fun v H1 e1 r1 _ => ⟨b, r1, q H1 e1⟩⟩
theorem t_not {a : E} {pa : Expr} (ha : PT X pa (RT X.K CL fl H0 (ev gv Φ a))) : PT X (.UnaryOp .Not pa pos) (RT X.K CL fl H0 (ev gv Φ (.not a))) := by
  refine ⟨fun pins s σ H Q I hw => ?_⟩
  obtain ⟨env, O, b, ok, hf, q⟩ := hw
  simp only [ev] at hf
  obtain ⟨x, hx, hz⟩ := bind1 hf
  match x, hz with
  | .bl i, hz =>
    cases hz
    exact (pt_not ha).run pins s σ H Q I ⟨env, O, _, ok, hx, fun H1 e1 => q H1 e1⟩
theorem PW.mono {e : Expr} {t t' : TT} (h : PW X e t) (m : ∀ σ H Q, t' σ H Q → t σ H Q) : PW X e t' := ⟨fun w pins s σ H Q I q => h.run w pins s σ H Q I (m _ _ _ q)⟩
theorem w_and {a b : E} {pa pb : Expr} {rest : List Expr} (ha : PT X pa (RT X.K CL fl H0 (ev gv Φ a))) (hb : PW X (.BoolOp .And (pb :: rest) pos) (RT X.K CL fl H0 (ev gv Φ b))) :
    PW X (.BoolOp .And (pa :: pb :: rest) pos) (RT X.K CL fl H0 (ev gv Φ (.and a b))) := by
  refine PW.mono (pw_and ha hb) fun σ H Q hw => ?_
  obtain ⟨env, O, b', ok, hf, q⟩ := hw
  simp only [ev] at hf
  obtain ⟨x, hx, hz⟩ := bind1 hf
  match x, hz with
  | .bl true, hz =>
    obtain ⟨y, hy, hz⟩ := bind1 hz
    obtain ⟨c, rfl, e⟩ := isB_eq hz
    cases e
    exact ⟨env, O, _, ok, hx, fun H1 e1 => iteT ⟨env, O, _, ok.exd e1, hy, fun H2 e2 => q H2 (e1.trans e2)⟩⟩
  | .bl false, hz =>
    cases hz
    exact ⟨env, O, _, ok, hx, fun H1 e1 => iteF (q H1 e1)⟩
theorem w_or {a b : E} {pa pb : Expr} {rest : List Expr} (ha : PT X pa (RT X.K CL fl H0 (ev gv Φ a))) (hb : PW X (.BoolOp .Or (pb :: rest) pos) (RT X.K CL fl H0 (ev gv Φ b))) :
    PW X (.BoolOp .Or (pa :: pb :: rest) pos) (RT X.K CL fl H0 (ev gv Φ (.or a b))) := by
  refine PW.mono (pw_or ha hb) fun σ H Q hw => ?_
  obtain ⟨env, O, b', ok, hf, q⟩ := hw
  simp only [ev] at hf
  obtain ⟨x, hx, hz⟩ := bind1 hf
  match x, hz with
  | .bl false, hz =>
    obtain ⟨y, hy, hz⟩ := bind1 hz
    obtain ⟨c, rfl, e⟩ := isB_eq hz
    cases e
    exact ⟨env, O, _, ok, hx, fun H1 e1 => iteF ⟨env, O, _, ok.exd e1, hy, fun H2 e2 => q H2 (e1.trans e2)⟩⟩
  | .bl true, hz =>
    cases hz
    exact ⟨env, O, _, ok, hx, fun H1 e1 => iteT (q H1 e1)⟩
/-- a comparison as a test: by its value -/
theorem t_cmp (hT : Tb X CL nm gv Φ) {op : Cop} {a b : E} {pa pb : Expr} (ha : PE X pa (RE X.K CL fl H0 (ev gv Φ a) (at_ fl a))) (hb : PE X pb (RE X.K CL fl H0 (ev gv Φ b) (at_ fl b))) (hs : isSet pb = false) :
    PT X (.Compare pa [op.py] [pb] pos) (RT X.K CL fl H0 (ev gv Φ (.cmp op a b))) := by
  refine ⟨fun pins s σ H Q I hw => ?_⟩
  obtain ⟨env, O, c, ok, hf, q⟩ := hw
  simp only [ev] at hf
  obtain ⟨x, y, hx, hy, hz⟩ := bind2 hf
  have r1 : ∀ {r : R2}, OpR X (compareOp op.py) r → (∀ v u H2 S S', Ex H H2 → Rep X.K CL H2 x S v → Rep X.K CL H2 y S' u → r v u H2 (fun z H3 => ∃ k, z = .bl k ∧ Q k H3)) →
      wpAny (model X.prog X.w) X.A (isTrue (.Compare pa [op.py] [pb] pos) X.env (eval (.Compare pa [op.py] [pb] pos) X.env)) (TP X pins σ Q) X.xe s := fun ho hr =>
    (pt_cmpR ho ha hb (mark_ok hs)).run pins s σ H Q I ⟨env, O, x, ok, hx, fun v H1 e1 r1 _ => ⟨env, O, y, ok.exd e1, hy, fun u H2 e2 r2 _ => hr v u H2 _ _ (e1.trans e2) (r1.ex e2) r2⟩⟩
  by_cases hm : op = .mem
  · subst hm
    obtain ⟨c', h1, h2⟩ := map1 hz
    cases T.bl.inj h2
    cases hdc : isDct y with
    | false => exact r1 (op_mem (CL := CL) hT.room) fun v u H2 S S' e2 r1 r2 => ⟨x, y, _, S, S', r1, r2, notDct hdc, h1, _, rfl, q H2 e2⟩
    | true =>
      match y, hy, h1, hdc with
      | .dct ks ts, hy, h1, _ =>
      obtain ⟨us, k, rfl, hk, rfl⟩ := memT_dct h1
      refine (pt_cmp (pc_din (by have := hT.room; omega) ha hb) (mark_ok hs)).run pins s σ H Q I ⟨env, O, _, ok, hx, fun v H1 e1 r1 _ => ⟨env, O, _, ok.exd e1, hy, fun u H2 e2 r2 _ => ?_⟩⟩
      obtain ⟨a', o, e, g, ho, _⟩ := dct_get (r1.ex e2) hk r2
      exact ⟨a', o, e, g, _, rfl, by rw [ho]; exact q H2 (e1.trans e2)⟩
  · by_cases hm' : op = .nmem
    · subst hm'
      obtain ⟨c', h1, h2⟩ := map1 hz
      cases T.bl.inj h2
      cases hdc : isDct y with
      | false => exact r1 (op_nmem (CL := CL) hT.room) fun v u H2 S S' e2 r1 r2 => ⟨x, y, _, S, S', r1, r2, notDct hdc, h1, _, rfl, q H2 e2⟩
      | true =>
        match y, hy, h1, hdc with
        | .dct ks ts, hy, h1, _ =>
        obtain ⟨us, k, rfl, hk, rfl⟩ := memT_dct h1
        refine (pt_cmp (pc_dnotin (by have := hT.room; omega) ha hb) (mark_ok hs)).run pins s σ H Q I ⟨env, O, _, ok, hx, fun v H1 e1 r1 _ => ⟨env, O, _, ok.exd e1, hy, fun u H2 e2 r2 _ => ?_⟩⟩
        obtain ⟨a', o, e, g, ho, _⟩ := dct_get (r1.ex e2) hk r2
        exact ⟨a', o, e, g, _, rfl, by rw [ho]; exact q H2 (e1.trans e2)⟩
    · exact r1 (op_cmp (CL := CL) hT.room hm hm') fun v u H2 S S' e2 r1 r2 => ⟨x, y, _, S, S', r1, r2, hz, c, rfl, _, rfl, q H2 e2⟩
theorem t_chn (hT : Tb X CL nm gv Φ) {op op' : Cop} {a b c : E} {pa pb pc : Expr} (ha : PE X pa (RE X.K CL fl H0 (ev gv Φ a) (at_ fl a))) (hb : PE X pb (RE X.K CL fl H0 (ev gv Φ b) (at_ fl b)))
    (hc : PE X pc (RE X.K CL fl H0 (ev gv Φ c) (at_ fl c))) (hs : isSet pc = false) (ho1 : op ≠ .mem) (ho2 : op ≠ .nmem) (ho3 : op' ≠ .mem) (ho4 : op' ≠ .nmem) :
    PT X (.Compare pa [op.py, op'.py] [pb, pc] pos) (RT X.K CL fl H0 (ev gv Φ (.chn op op' a b c))) := by
  refine ⟨fun pins s σ H Q I h => ?_⟩
  obtain ⟨env, O, t, ok, hf, q⟩ := h
  simp only [ev] at hf
  obtain ⟨x, y, hx, hy, hz⟩ := bind2 hf
  obtain ⟨w, hw, hz⟩ := bind1 hz
  obtain ⟨d, rfl⟩ := cmpT_bl hw
  refine (pt_chain (op_cmp (CL := CL) hT.room ho1 ho2) (op_cmp (CL := CL) hT.room ho3 ho4) ha hb hc (mark_ok hs)).run pins s σ H Q I ⟨env, O, x, ok, hx, fun v H1 e1 r1 _ => ⟨env, O, y, ok.exd e1, hy, fun u H2 e2 r2 _ => ⟨x, y, _, _, _, r1.ex e2, r2, hw, d, rfl, d, rfl, ?_⟩⟩⟩
  cases d with
  | false =>
    cases hz
    exact iteF ⟨_, rfl, q H2 (e1.trans e2)⟩
  | true =>
    obtain ⟨z, hz1, hz2⟩ := bind1 hz
    exact iteT ⟨env, O, z, ok.exd (e1.trans e2), hz1, fun w H3 e3 r3 _ => ⟨y, z, _, _, _, r2.ex e3, r3, hz2, _, rfl, _, rfl, q H3 ((e1.trans e2).trans e3)⟩⟩
theorem e_ite {c a b : E} {pc pa pb : Expr} (hc : PT X pc (RT X.K CL fl H0 (ev gv Φ c))) (ha : PE X pa (RE X.K CL fl H0 (ev gv Φ a) (at_ fl a))) (hb : PE X pb (RE X.K CL fl H0 (ev gv Φ b) (at_ fl b))) :
    PE X (.IfExp pc pa pb pos) (RE X.K CL fl H0 (ev gv Φ (.ite c a b)) (at_ fl (.ite c a b))) := by
  refine ⟨fun pins s σ H Q I h => ?_⟩
  obtain ⟨env, O, t, ok, hf, q⟩ := h
  simp only [ev] at hf
  obtain ⟨x, hx, hz⟩ := bind1 hf
  simp only [at_] at q
  refine (pe_ifExp hc ha hb).run pins s σ H Q I ?_
  match x, hz with
  | .bl true, hz =>
    refine ⟨env, O, _, ok, hx, fun H1 e1 => iteT ⟨env, O, _, ok.exd e1, hz, fun v H2 e2 r2 f2 => q v H2 (e1.trans e2) (r2.mono (ss_mono (join_l _ _) (join_nl _ _))) fun hf => ?_⟩⟩
    have hf' : (at_ fl a).fr = true := (Bool.and_eq_true _ _ ▸ hf : _ ∧ _).1
    exact fun m => let ⟨p, e, h⟩ := f2 hf' m; ⟨p, e, ex_none e1 h⟩
  | .bl false, hz =>
    refine ⟨env, O, _, ok, hx, fun H1 e1 => iteF ⟨env, O, _, ok.exd e1, hz, fun v H2 e2 r2 f2 => q v H2 (e1.trans e2) (r2.mono (ss_mono (join_r _ _) (join_nr _ _))) fun hf => ?_⟩⟩
    have hf' : (at_ fl b).fr = true := (Bool.and_eq_true _ _ ▸ hf : _ ∧ _).2
    exact fun m => let ⟨p, e, h⟩ := f2 hf' m; ⟨p, e, ex_none e1 h⟩
end
end Sb
namespace Sb
open PySem L2 PyProof.Rows
open Evl (Ex Ex.refl Ex.trans Ex.new)
section
variable {X : Cx} {CL : Nat → Addr × List Str} {nm : Nm} {gv : Nat → Option Int} {Φ : Nat → List T → Option R} {fl : Fl} {H0 : Hp} {pos : Pos}
theorem a_nil : PA X [] (RA X.K CL fl H0 (evs gv Φ .nil) (ats fl .nil)) := by
  refine ⟨fun p pins s σ H Q I h => ?_⟩
  obtain ⟨env, O, ts, ok, hf, q⟩ := h
  simp only [evs] at hf
  cases hf
  exact (pa_nil (X := X)).run p pins s σ H Q I (q [] H (Ex.refl H) rfl)
theorem a_cons {e : E} {es : EL} {pe : Expr} {pes : List Expr} (he : PE X pe (RE X.K CL fl H0 (ev gv Φ e) (at_ fl e))) (hr : PA X pes (RA X.K CL fl H0 (evs gv Φ es) (ats fl es))) (hs : isStar pe = false) :
    PA X (pe :: pes) (RA X.K CL fl H0 (evs gv Φ (.cons e es)) (ats fl (.cons e es))) := by
  refine ⟨fun p pins s σ H Q I h => ?_⟩
  obtain ⟨env, O, ts, ok, hf, q⟩ := h
  simp only [evs] at hf
  obtain ⟨t, ht, hz⟩ := bind1 hf
  obtain ⟨us, hu, rfl⟩ := map1 hz
  simp only [ats] at q
  exact (pa_cons he hr (star_ok hs)).run p pins s σ H Q I ⟨env, O, t, ok, ht, fun v H1 e1 r1 _ => ⟨env, O, us, ok.exd e1, hu, fun vs H2 e2 r2 =>
    q (v :: vs) H2 (e1.trans e2) (.cons ((r1.ex e2).mono (ss_mono (join_l _ _) (join_nl _ _))) (r2.mono (ss_mono (join_r _ _) (join_nr _ _))))⟩⟩
theorem o_no : PO X none (RO X.K CL fl H0 (evo gv Φ .no)) := by
  refine ⟨fun pins s σ H Q I h => ?_⟩
  obtain ⟨env, O, o, ok, hf, q⟩ := h
  simp only [evo] at hf
  cases hf
  exact (po_none (X := X)).run pins s σ H Q I (q H (Ex.refl H))
theorem o_so {e : E} {pe : Expr} (he : PE X pe (RE X.K CL fl H0 (ev gv Φ e) (at_ fl e))) : PO X (some pe) (RO X.K CL fl H0 (evo gv Φ (.so e))) := by
  refine ⟨fun pins s σ H Q I h => ?_⟩
  obtain ⟨env, O, o, ok, hf, q⟩ := h
  simp only [evo] at hf
  obtain ⟨x, hx, hz⟩ := bind1 hf
  match x, hz with
  | .int i, hz =>
    cases hz
    exact (po_some he).run pins s σ H Q I ⟨env, O, _, ok, hx, fun v H1 e1 r1 _ => ⟨i, r1, q H1 e1⟩⟩
theorem e_tup {es : EL} {pes : List Expr} {k : Nat} (h : PA X pes (RA X.K CL fl H0 (evs gv Φ es) (ats fl es))) : PE X (.Tuple pes k pos) (RE X.K CL fl H0 (ev gv Φ (.tup es)) (at_ fl (.tup es))) := by
  refine ⟨fun pins s σ H Q I hw => ?_⟩
  obtain ⟨env, O, t, ok, hf, q⟩ := hw
  simp only [ev] at hf
  obtain ⟨ts, hx, hz⟩ := bind1 hf
  obtain ⟨hl, rfl⟩ := ite1 hz
  simp only [at_] at q
  exact (pe_tup h).run pins s σ H Q I ⟨env, O, ts, ok, hx, fun vs H1 e1 r1 => ⟨by rw [r1.len]; exact lim_line hl, fun p hp => q _ _ (e1.trans (Ex.new hp)) (new_tup hp hl r1) fun _ => fre_of rfl⟩⟩
theorem e_lst {es : EL} {pes : List Expr} (h : PA X pes (RA X.K CL fl H0 (evs gv Φ es) (ats fl es))) : PE X (.List pes pos) (RE X.K CL fl H0 (ev gv Φ (.lst es)) (at_ fl (.lst es))) := by
  refine ⟨fun pins s σ H Q I hw => ?_⟩
  obtain ⟨env, O, t, ok, hf, q⟩ := hw
  simp only [ev] at hf
  obtain ⟨ts, hx, hz⟩ := bind1 hf
  obtain ⟨hl, rfl⟩ := ite1 hz
  simp only [at_] at q
  exact (pe_lst h).run pins s σ H Q I ⟨env, O, ts, ok, hx, fun vs H1 e1 r1 => ⟨by rw [r1.len]; exact lim_line hl, fun p hp => q _ _ (e1.trans (Ex.new hp)) (new_lst (ok.exd e1) hp hl r1) fun _ _ => ⟨p, rfl, ex_none e1 hp⟩⟩⟩
theorem subT_inv {x y t : T} (h : subT x y = some t) : (∃ ts i, x = .lst ts ∧ y = .int i ∧ atI ts i = some t) ∨ (∃ ts i, x = .tup ts ∧ y = .int i ∧ atI ts i = some t) ∨
    (∃ ks ts us k, x = .dct ks ts ∧ y = .tup us ∧ asInts us = some k ∧ dGet ks ts k = some t) ∨ ∃ ks ts us k, x = .fdc ks ts ∧ y = .tup us ∧ asInts us = some k ∧ dGet ks ts k = some t := by
  cases x with
  | lst ts => cases y with
    | int i => exact .inl ⟨ts, i, rfl, rfl, h⟩
    | _ => cases h
  | tup ts => cases y with
    | int i => exact .inr (.inl ⟨ts, i, rfl, rfl, h⟩)
    | _ => cases h
  | dct ks ts => cases y with
    | tup us =>
      obtain ⟨k, h1, h2⟩ := bind1 h
      exact .inr (.inr (.inl ⟨ks, ts, us, k, rfl, rfl, h1, h2⟩))
    | _ => cases h
  | fdc ks ts => cases y with
    | tup us =>
      obtain ⟨k, h1, h2⟩ := bind1 h
      exact .inr (.inr (.inr ⟨ks, ts, us, k, rfl, rfl, h1, h2⟩))
    | _ => cases h
  | _ => cases y <;> cases h
theorem e_sub (hT : Tb X CL nm gv Φ) {a b : E} {pa pb : Expr} (ha : PE X pa (RE X.K CL fl H0 (ev gv Φ a) (at_ fl a))) (hb : PE X pb (RE X.K CL fl H0 (ev gv Φ b) (at_ fl b))) (hs : isSlice pb = false) :
    PE X (.Subscript pa pb pos) (RE X.K CL fl H0 (ev gv Φ (.sub a b)) (at_ fl (.sub a b))) := by
  refine ⟨fun pins s σ H Q I h => ?_⟩
  obtain ⟨env, O, t, ok, hf, q⟩ := h
  simp only [ev] at hf
  obtain ⟨x, y, hx, hy, hz⟩ := bind2 hf
  simp only [at_] at q
  rcases subT_inv hz with ⟨ts, i, rfl, rfl, hi⟩ | ⟨ts, i, rfl, rfl, hi⟩ | ⟨ks, ts, us, k, rfl, rfl, h1, h2⟩ | ⟨ks, ts, us, k, rfl, rfl, h1, h2⟩
  · refine (pe_ix ix_list ha hb (ix_ok hs)).run pins s σ H Q I ⟨env, O, _, ok, hx, fun v H1 e1 r1 _ => ⟨env, O, _, ok.exd e1, hy, fun u H2 e2 r2 _ => ?_⟩⟩
    obtain ⟨p, vs, rfl, _, h1, h2, _⟩ := rep_lst (r1.ex e2)
    obtain ⟨w, h3, h4⟩ := h2.atI hi
    exact ⟨p, vs, i, w, rfl, r2, h1, h3, q w H2 (e1.trans e2) h4 fun z => nomatch z⟩
  · refine (pe_ix ix_tup ha hb (ix_ok hs)).run pins s σ H Q I ⟨env, O, _, ok, hx, fun v H1 e1 r1 _ => ⟨env, O, _, ok.exd e1, hy, fun u H2 e2 r2 _ => ?_⟩⟩
    obtain ⟨p, vs, rfl, h1, h2, _⟩ := rep_tup (r1.ex e2)
    obtain ⟨w, h3, h4⟩ := h2.atI hi
    exact ⟨p, vs, i, w, rfl, r2, h1, h3, q w H2 (e1.trans e2) h4 fun z => nomatch z⟩
  · refine (pe_dget (by have := hT.room; omega) ha hb (ix_ok hs)).run pins s σ H Q I ⟨env, O, _, ok, hx, fun v H1 e1 r1 _ => ⟨env, O, _, ok.exd e1, hy, fun u H2 e2 r2 _ => ?_⟩⟩
    obtain ⟨a', o, e, g, _, ho⟩ := dct_get r2 h1 (r1.ex e2)
    obtain ⟨w, rfl, h4⟩ := ho t h2
    exact ⟨a', w, e, g, q w H2 (e1.trans e2) h4 fun z => nomatch z⟩
  · refine (pe_dget (by have := hT.room; omega) ha hb (ix_ok hs)).run pins s σ H Q I ⟨env, O, _, ok, hx, fun v H1 e1 r1 _ => ⟨env, O, _, ok.exd e1, hy, fun u H2 e2 r2 _ => ?_⟩⟩
    obtain ⟨b, rfl, hb'⟩ := rep_key r2 h1
    obtain ⟨a', kvs, od, rfl, g1, _, g2, g3⟩ := (r1.ex e2)
    obtain ⟨f1, _⟩ := dGet_rep (k := k) g2 g3
    obtain ⟨w, e3, h4⟩ := f1 t h2
    exact ⟨a', w, rfl, .inr ⟨kvs, _, b, .inr ⟨od, g1⟩, rfl, hb', e3.symm⟩, q w H2 (e1.trans e2) h4 fun z => nomatch z⟩
theorem e_cut {a : E} {lo hi : EO} {pa : Expr} {plo phi : Option Expr} {p2 : Pos} (ha : PE X pa (RE X.K CL fl H0 (ev gv Φ a) (at_ fl a))) (hl : PO X plo (RO X.K CL fl H0 (evo gv Φ lo))) (hh : PO X phi (RO X.K CL fl H0 (evo gv Φ hi))) :
    PE X (.Subscript pa (.Slice plo phi none p2) pos) (RE X.K CL fl H0 (ev gv Φ (.cut a lo hi)) (at_ fl (.cut a lo hi))) := by
  refine ⟨fun pins s σ H Q I h => ?_⟩
  obtain ⟨env, O, t, ok, hf, q⟩ := h
  simp only [ev] at hf
  obtain ⟨x, hx, hz⟩ := bind1 hf
  obtain ⟨l, u, hl', hu', hz⟩ := bind2 hz
  simp only [at_] at q
  have go : ∀ {r : V → Option Int → Option Int → Hp → VK → Prop}, SlR X r → (∀ v H2, Ex H H2 → Rep X.K CL H2 x (SS O env σ (at_ fl a).ret H0 (at_ fl a).nw) v → r v l u H2 Q) →
      wpAny (model X.prog X.w) X.A (eval (.Subscript pa (.Slice plo phi none p2) pos) X.env) (EP X pins σ Q) X.xe s := fun hr k =>
    (pe_slice hr ha hl hh).run pins s σ H Q I ⟨env, O, x, ok, hx, fun v H1 e1 r1 _ => ⟨env, O, l, ok.exd e1, hl', fun H2 e2 => ⟨env, O, u, ok.exd (e1.trans e2), hu', fun H3 e3 => k v H3 ((e1.trans e2).trans e3) (r1.ex (e2.trans e3))⟩⟩⟩
  cases x with
  | lst ts =>
    cases hz
    refine go sl_list fun v H2 e2 r => ?_
    obtain ⟨b, vs, rfl, _, h1, h2, hlen⟩ := rep_lst r
    exact ⟨b, vs, rfl, h1, fun p hp => q _ _ (e2.trans (Ex.new hp)) (new_lst (ok.exd e2) hp (Nat.le_trans (cutL_len _ _ _) hlen) (h2.cut l u)) fun _ _ => ⟨p, rfl, ex_none e2 hp⟩⟩
  | scr ns =>
    cases hz
    refine go sl_list fun v H2 e2 r => ?_
    obtain ⟨b, rfl, h1, hlen⟩ := rep_scr r
    refine ⟨b, _, rfl, h1, fun p hp => q _ _ (e2.trans (Ex.new hp)) ?_ fun _ _ => ⟨p, rfl, ex_none e2 hp⟩⟩
    rw [cutV_ints]
    exact new_lst (ok.exd e2) hp (by rw [List.length_map]; exact Nat.le_trans (cutL_len _ _ _) hlen) Reps.of_ints
  | tup ts =>
    cases hz
    refine go sl_tupA fun v H2 e2 r => ?_
    obtain ⟨b, vs, rfl, h1, h2, hlen, _⟩ := rep_tup r
    refine ⟨b, vs, rfl, h1, fun hw => ?_, fun _ p hp => q _ _ (e2.trans (Ex.new hp)) (new_tup hp (Nat.le_trans (cutL_len _ _ _) hlen) (h2.cut l u)) fun _ => fre_of rfl⟩
    refine q _ H2 e2 ?_ fun _ => fre_of rfl
    have e : cutL ts l u = ts := by
      unfold cutL
      rw [← h2.len, hw.1, hw.2, h2.len]
      simp
    rw [e]
    exact r
  | _ => cases hz
theorem reps_pick {K : PySem.W.Frag} {H : Hp} {ts : List T} {S : AS} {vs : List V} (h : Reps K CL H ts S vs) : ∀ L : List Nat, Reps K CL H (L.filterMap fun x => ts[x]?) S (L.filterMap fun x => vs[x]?)
  | [] => rfl
  | i :: L => by
    cases ht : ts[i]? with
    | none =>
      have hv : vs[i]? = none := by
        rw [List.getElem?_eq_none_iff] at ht ⊢
        rw [h.len]; exact ht
      rw [List.filterMap_cons_none ht, List.filterMap_cons_none hv]; exact reps_pick h L
    | some t =>
      obtain ⟨v, hv, rv⟩ := h.get ht
      rw [List.filterMap_cons_some ht, List.filterMap_cons_some hv]; exact .cons rv (reps_pick h L)
theorem Reps.stp {K : PySem.W.Frag} {H : Hp} {ts : List T} {S : AS} {vs : List V} (i : Int) (h : Reps K CL H ts S vs) : Reps K CL H (stpL ts i) S (stpL vs i) := by
  unfold stpL
  rw [h.len]
  exact reps_pick h _
theorem paired_at {α β : Type} {R : α → β → Prop} : ∀ {xs : List α} {ys : List β}, Paired R xs ys → ∀ i : Nat, (xs[i]? = none ∧ ys[i]? = none) ∨ ∃ x y, xs[i]? = some x ∧ ys[i]? = some y ∧ R x y := by
  intro xs ys h
  induction h with
  | nil => intro i; left; simp
  | cons h _ ih =>
    intro i
    cases i with
    | zero => right; exact ⟨_, _, rfl, rfl, h⟩
    | succ i => simpa using ih i
theorem paired_pick {α β : Type} {R : α → β → Prop} {xs : List α} {ys : List β} (h : Paired R xs ys) : ∀ L : List Nat, Paired R (L.filterMap fun x => xs[x]?) (L.filterMap fun x => ys[x]?)
  | [] => .nil
  | i :: L => by
    rcases paired_at h i with ⟨h1, h2⟩ | ⟨x, y, h1, h2, h3⟩
    · rw [List.filterMap_cons_none h1, List.filterMap_cons_none h2]; exact paired_pick h L
    · rw [List.filterMap_cons_some h1, List.filterMap_cons_some h2]; exact .cons h3 (paired_pick h L)
theorem pe_stepL {e pk : Expr} {te tk : TE} {p3 pos : Pos} (he : PE X e te) (hk : PE X pk tk) : PE X (.Subscript e (.Slice none none (some pk) p3) pos)
    (fun σ H Q => te σ H fun x H1 => ∃ a, x = .ref a ∧ tk σ H1 fun y H2 => ∃ i : Int, y = .int i ∧ ∃ xs : List V, i ≠ 0 ∧ SqL X.K H2 a xs ∧ (stpL xs i).length ≤ sizeLine ∧ ∀ p, H2 p = none → Q (.ref p) (upd H2 p (.lst (stpL xs i)))) := by
  refine ⟨fun pins s σ H Q I h => ?_⟩
  refine Subscript_ (thn (he.run pins s σ H _ I h) fun v s1 ⟨x, H1, I1, r1, q1⟩ => ?_)
  obtain ⟨a, ex, q⟩ := q1
  subst ex
  cases r1
  have hst : PO X (some pk) (tPart tk) := po_some hk
  refine wpAny_Slice (thn (po_none.run pins s1 σ H1 (fun o H2 => o = none ∧ H2 = H1) I1 ⟨rfl, rfl⟩) fun vl s2 ⟨l, H2, I2, pl, el, e2⟩ => ?_)
  subst el e2
  refine thn (po_none.run pins s2 σ H2 (fun o H3 => o = none ∧ H3 = H2) I2 ⟨rfl, rfl⟩) fun vu s3 ⟨u, H3, I3, pu, eu, e3⟩ => ?_
  subst eu e3
  refine thn (hst.run pins s3 σ H3 (fun o H4 => match o with
    | some i => ∃ xs : List V, i ≠ 0 ∧ SqL X.K H4 a xs ∧ (stpL xs i).length ≤ sizeLine ∧ ∀ p, H4 p = none → Q (.ref p) (upd H4 p (.lst (stpL xs i)))
    | none => False) I3 q) fun vs s4 ⟨o, H4, I4, ps, q4⟩ => ?_
  cases o with
  | none => exact q4.elim
  | some i =>
    obtain ⟨xs, hi, hx, hsz, q5⟩ := q4
    have I5 : Inv X pins σ H4 { s4 with heap := s4.heap.push { cls := .type "slice", data := .fields #[vl, vu, vs] } } := I4.kept (t' := s4.toks) fun b ob q => Heap.get?_push_of_some _ q
    obtain ⟨its, r, ht, hz⟩ := I5.list hx
    have hlen := r.length
    show wpAny (model X.prog X.w) X.A (subscriptTail e (.Slice none none (some pk) p3) (.ref a) (.ref s4.heap.objs.size)) (EP X pins σ Q) X.xe { s4 with heap := s4.heap.push { cls := .type "slice", data := .fields #[vl, vu, vs] } }
    refine tail_any (ops := [.ref a, .ref s4.heap.objs.size]) ht.isList.typeIs (PySem.slot_list_getitem.lookup) ?_ (by with_unfolding_all rfl)
    refine wpAny_getItem_list_slice ht.isList (Heap.IsSliceOf.new _ vl vu vs) pl pu ps (fun z => hi (Option.some.inj z)) ?_ (by rw [List.size_toArray]; omega)
    have hp : slicePick its.toArray none none (some i) = (stpL its i).toArray := by
      unfold slicePick stpL
      rw [List.size_toArray]
      congr 1
      refine congrArg (fun f => List.filterMap f _) ?_
      funext x
      simp
    have hp2 : Vals (stpL xs i) (stpL its i) := by
      unfold stpL
      rw [hlen]
      exact paired_pick r _
    rw [hp]
    refine ⟨.ref _, _, I5.laid (t' := s4.toks) (o := .lst (stpL xs i)) (fun b ob q => Heap.get?_push_of_some _ q) (Nat.le_refl _) ?_, rfl, q5 _ (I5.hok.fresh (Nat.le_refl _))⟩
    exact ⟨hsz, _, 0, hp2, Heap.get?_push_size _ rfl⟩
theorem e_stp {a k : E} {pa pk : Expr} {p3 : Pos} (ha : PE X pa (RE X.K CL fl H0 (ev gv Φ a) (at_ fl a))) (hk : PE X pk (RE X.K CL fl H0 (ev gv Φ k) (at_ fl k))) :
    PE X (.Subscript pa (.Slice none none (some pk) p3) pos) (RE X.K CL fl H0 (ev gv Φ (.stp a k)) (at_ fl (.stp a k))) := by
  refine ⟨fun pins s σ H Q I h => ?_⟩
  obtain ⟨env, O, t, ok, hf, q⟩ := h
  simp only [ev] at hf
  obtain ⟨x, y, hx, hy, hz⟩ := bind2 hf
  simp only [at_] at q
  cases x with
  | lst ts =>
    cases y with
    | int i =>
      obtain ⟨⟨hi, hl⟩, rfl⟩ := ite1 hz
      refine (pe_stepL ha hk).run pins s σ H Q I ⟨env, O, _, ok, hx, fun v H1 e1 r1 _ => ?_⟩
      obtain ⟨b, vs, rfl, _, h1, h2, hlen⟩ := rep_lst r1
      refine ⟨b, rfl, env, O, _, ok.exd e1, hy, fun u H2 e2 r2 _ => ⟨i, r2, ?_⟩⟩
      obtain ⟨b', vs', e, _, h1', h2', _⟩ := rep_lst (r1.ex e2)
      cases e
      exact ⟨vs', hi, h1', Nat.le_trans (by rw [← (h2'.stp i).len] at hl; exact hl) (by decide), fun p hp => q _ _ ((e1.trans e2).trans (Ex.new hp)) (new_lst (ok.exd (e1.trans e2)) hp hl (h2'.stp i)) fun _ _ => ⟨p, rfl, ex_none (e1.trans e2) hp⟩⟩
    | _ => cases hz
  | _ => cases hz
theorem e_rev {a : E} {pa : Expr} {k : Nat} {p1 p2 p3 : Pos} (ha : PE X pa (RE X.K CL fl H0 (ev gv Φ a) (at_ fl a))) :
    PE X (.Subscript pa (.Slice none none (some (.UnaryOp .USub (.Constant (.int 1) k p1) p2)) p3) pos) (RE X.K CL fl H0 (ev gv Φ (.rev a)) (at_ fl (.rev a))) := by
  refine ⟨fun pins s σ H Q I h => ?_⟩
  obtain ⟨env, O, t, ok, hf, q⟩ := h
  simp only [ev] at hf
  obtain ⟨x, hx, hz⟩ := bind1 hf
  simp only [at_] at q
  cases x with
  | lst ts =>
    cases hz
    refine (pe_revL ha).run pins s σ H Q I ⟨env, O, _, ok, hx, fun v H1 e1 r1 _ => ?_⟩
    obtain ⟨b, vs, rfl, _, h1, h2, hlen⟩ := rep_lst r1
    exact ⟨b, vs, rfl, h1, fun p hp => q _ _ (e1.trans (Ex.new hp)) (new_lst (ok.exd e1) hp (by rw [List.length_reverse]; exact hlen) h2.rev) fun _ _ => ⟨p, rfl, ex_none e1 hp⟩⟩
  | scr ns =>
    cases hz
    refine (pe_revL ha).run pins s σ H Q I ⟨env, O, _, ok, hx, fun v H1 e1 r1 _ => ?_⟩
    obtain ⟨b, rfl, h1, hlen⟩ := rep_scr r1
    refine ⟨b, _, rfl, h1, fun p hp => q _ _ (e1.trans (Ex.new hp)) ?_ fun _ _ => ⟨p, rfl, ex_none e1 hp⟩⟩
    rw [← List.map_reverse]
    exact new_lst (ok.exd e1) hp (by rw [List.length_map, List.length_reverse]; exact hlen) Reps.of_ints
  | _ => cases hz
theorem back_ok {env : PySem.Env} {p : Pos} : ∀ {es : List Expr}, es.all (fun e => !isStar e) = true → (backTo p (starEach es env)).any (·.1) = false
  | [], _ => rfl
  | e :: es, h => by
    rw [List.all_cons, Bool.and_eq_true] at h
    have h1 : isStar e = false := by simpa using h.1
    rw [star_ok h1]
    show (false || (backTo p (starEach es env)).any (·.1)) = false
    rw [back_ok h.2]; rfl
theorem Rep.top {K : PySem.W.Frag} {H : Hp} {t : T} {S : AS} {v : V} (h : Rep K CL H t S v) : Rep K CL H t (fun _ => True) v := h.mono fun _ _ => trivial
theorem Reps.top {K : PySem.W.Frag} {H : Hp} {t : List T} {S : AS} {v : List V} (h : Reps K CL H t S v) : Reps K CL H t (fun _ => True) v := h.mono fun _ _ => trivial
/-- a fresh result -/
theorem fresh_ss {K : PySem.W.Frag} {H H1 H' : Hp} {env : Env} {σ : L2.St} {O : AR} {t : T} {v : V} {ret : List Nat} {nw : Bool} (ok : Ok K CL H0 fl env σ H1 O) (e1 : Ex H H1) (r : Rep K CL H' t (fun a => H1 a = none) v) :
    Rep K CL H' t (SS O env σ ret H0 nw) v ∧ Fre H t v := by
  refine ⟨r.mono fun b hb => ss_new ok hb, fun m => ?_⟩
  cases t with
  | lst ts => obtain ⟨a, vs, e, h, _⟩ := r; exact ⟨a, e, ex_none e1 h⟩
  | dct ks ts => obtain ⟨a, vs, e, h, _⟩ := r; exact ⟨a, e, ex_none e1 h⟩
  | obj ks ts => obtain ⟨a, vs, fs, e, h, _⟩ := r; exact ⟨a, e, ex_none e1 h⟩
  | _ => cases m
theorem e_call (hT : Tb X CL nm gv Φ) {f : Nat} {es : EL} {pe : Expr} {pes : List Expr} {p : Pos} {x : Str} (hf0 : f < 10000) (hx : nm.fn f = x) (hg : Gl X x) (hd : (x == ("__debug__" : Str)) = false) (h : PA X (pe :: pes) (RA X.K CL fl H0 (evs gv Φ es) (ats fl es)))
    (hs : isStar pe = false) (hss : pes.all (fun e => !isStar e) = true) : PE X (.Call (.Name x p) (pe :: pes) [] pos) (RE X.K CL fl H0 (ev gv Φ (.call f es)) (at_ fl (.call f es))) := by
  refine ⟨fun pins s σ H Q I hw => ?_⟩
  obtain ⟨env, O, t, ok, hf, q⟩ := hw
  simp only [ev] at hf
  obtain ⟨ts, ht, hz⟩ := bind1 hf
  obtain ⟨r, hz, hr'⟩ := bind1 hz
  cases r with
  | exc c => cases hr'
  | wkv c => cases hr'
  | val t' =>
    cases hr'
    obtain ⟨k, fa, fd, ps, hm, hk, hb, hr, F⟩ := hT.fn f ts _ hf0 hz
    subst hx
    refine (pe_call F hr hg hm hk hb .nil passL h hd (star_ok hs) (back_ok hss)).run pins s σ H Q I ⟨env, O, ts, ok, ht, fun vs H1 e1 r1 => ?_⟩
    show spF X.K CL (Φ f) (vs ++ []) H1 Q E0
    rw [List.append_nil]
    refine ⟨ts, _, r1.top, hz, fun t' et v H' e' r' => ?_, (fun c z => nomatch z), (fun c z => nomatch z)⟩
    cases et
    obtain ⟨g1, g2⟩ := fresh_ss (ret := []) (nw := true) (ok.exd e1) e1 r'
    exact q v H' (e1.trans e') g1 fun _ => g2
/-- a call whose result may be a thing handed in -/
theorem e_callW (hT : Tb X CL nm gv Φ) {f : Nat} {es : EL} {pe : Expr} {pes : List Expr} {p : Pos} {x : Str} (hf0 : f < 10000) (hx : nm.fn f = x) (hg : Gl X x) (hd : (x == ("__debug__" : Str)) = false) (h : PA X (pe :: pes) (RA X.K CL fl H0 (evs gv Φ es) (ats fl es)))
    (hs : isStar pe = false) (hss : pes.all (fun e => !isStar e) = true) : PE X (.Call (.Name x p) (pe :: pes) [] pos) (fun σ H Q => ∃ env O t, Ok X.K CL H0 fl env σ H O ∧ ((evs gv Φ es env).bind fun ts => (Φ f ts).bind R.wk) = some t ∧ ∀ v H' S, Ex H H' → Rep X.K CL H' t S v → Q v H') := by
  refine ⟨fun pins s σ H Q I hw => ?_⟩
  obtain ⟨env, O, t, ok, hf, q⟩ := hw
  obtain ⟨ts, ht, hz⟩ := bind1 hf
  obtain ⟨r, hz, hr'⟩ := bind1 hz
  cases r with
  | exc c => cases hr'
  | val c => cases hr'
  | wkv t' =>
    cases hr'
    obtain ⟨k, fa, fd, ps, hm, hk, hb, hr, F⟩ := hT.fn f ts _ hf0 hz
    subst hx
    refine (pe_call F hr hg hm hk hb .nil passL h hd (star_ok hs) (back_ok hss)).run pins s σ H Q I ⟨env, O, ts, ok, ht, fun vs H1 e1 r1 => ?_⟩
    show spF X.K CL (Φ f) (vs ++ []) H1 Q E0
    rw [List.append_nil]
    refine ⟨ts, _, r1.top, hz, (fun t z => nomatch z), (fun c z => nomatch z), fun t' et v H' S e' r' => ?_⟩
    cases et
    exact q v H' S (e1.trans e') r'
theorem e_cmw (hT : Tb X CL nm gv Φ) {op : Cop} {f : Nat} {es : EL} {b : E} {pe pb : Expr} {pes : List Expr} {p p2 : Pos} {x : Str} (hf0 : f < 10000) (hx : nm.fn f = x) (hg : Gl X x) (hd : (x == ("__debug__" : Str)) = false) (h : PA X (pe :: pes) (RA X.K CL fl H0 (evs gv Φ es) (ats fl es)))
    (hs : isStar pe = false) (hss : pes.all (fun e => !isStar e) = true) (hb : PE X pb (RE X.K CL fl H0 (ev gv Φ b) (at_ fl b))) (hse : isSet pb = false) (hm : op ≠ .mem) (hm' : op ≠ .nmem) :
    PE X (.Compare (.Call (.Name x p) (pe :: pes) [] p2) [op.py] [pb] pos) (RE X.K CL fl H0 (ev gv Φ (.cmw op f es b)) (at_ fl (.cmw op f es b))) := by
  refine ⟨fun pins s σ H Q I hw => ?_⟩
  obtain ⟨env, O, t, ok, hf, q⟩ := hw
  simp only [ev] at hf
  obtain ⟨x', y, hx', hy, hz⟩ := bind2 hf
  obtain ⟨c, rfl⟩ := cmpT_bl hz
  exact (pe_cmpR (op_cmp (CL := CL) hT.room hm hm') (e_callW hT hf0 hx hg hd h hs hss) hb (mark_ok hse)).run pins s σ H Q I ⟨env, O, x', ok, hx', fun v H1 S e1 r1 => ⟨env, O, y, ok.exd e1, hy, fun u H2 e2 r2 _ => ⟨x', y, _, S, _, r1.ex e2, r2, hz, c, rfl, q _ H2 (e1.trans e2) rfl fun _ => fre_of rfl⟩⟩⟩
theorem t_cmw (hT : Tb X CL nm gv Φ) {op : Cop} {f : Nat} {es : EL} {b : E} {pe pb : Expr} {pes : List Expr} {p p2 : Pos} {x : Str} (hf0 : f < 10000) (hx : nm.fn f = x) (hg : Gl X x) (hd : (x == ("__debug__" : Str)) = false) (h : PA X (pe :: pes) (RA X.K CL fl H0 (evs gv Φ es) (ats fl es)))
    (hs : isStar pe = false) (hss : pes.all (fun e => !isStar e) = true) (hb : PE X pb (RE X.K CL fl H0 (ev gv Φ b) (at_ fl b))) (hse : isSet pb = false) (hm : op ≠ .mem) (hm' : op ≠ .nmem) :
    PT X (.Compare (.Call (.Name x p) (pe :: pes) [] p2) [op.py] [pb] pos) (RT X.K CL fl H0 (ev gv Φ (.cmw op f es b))) := by
  refine ⟨fun pins s σ H Q I hw => ?_⟩
  obtain ⟨env, O, c, ok, hf, q⟩ := hw
  simp only [ev] at hf
  obtain ⟨x', y, hx', hy, hz⟩ := bind2 hf
  exact (pt_cmpR (op_cmp (CL := CL) hT.room hm hm') (e_callW hT hf0 hx hg hd h hs hss) hb (mark_ok hse)).run pins s σ H Q I ⟨env, O, x', ok, hx', fun v H1 S e1 r1 => ⟨env, O, y, ok.exd e1, hy, fun u H2 e2 r2 _ => ⟨x', y, _, S, _, r1.ex e2, r2, hz, c, rfl, _, rfl, q H2 (e1.trans e2)⟩⟩⟩
/-- an item of a call's tuple: all of it is new -/
theorem e_csb (hT : Tb X CL nm gv Φ) {f : Nat} {es : EL} {kk : Int} {pe : Expr} {pes : List Expr} {p p2 p3 : Pos} {j : Nat} {x : Str} (hf0 : f < 10000) (hx : nm.fn f = x) (hg : Gl X x) (hd : (x == ("__debug__" : Str)) = false) (h : PA X (pe :: pes) (RA X.K CL fl H0 (evs gv Φ es) (ats fl es)))
    (hs : isStar pe = false) (hss : pes.all (fun e => !isStar e) = true) : PE X (.Subscript (.Call (.Name x p) (pe :: pes) [] p2) (.Constant (.int kk) j p3) pos) (RE X.K CL fl H0 (ev gv Φ (.csb f es kk)) (at_ fl (.csb f es kk))) := by
  have hc : PE X (.Call (.Name x p) (pe :: pes) [] p2) (fun σ H Q => ∃ env O t, Ok X.K CL H0 fl env σ H O ∧ ((evs gv Φ es env).bind fun ts => (Φ f ts).bind R.ok) = some t ∧ ∀ v H', Ex H H' → Rep X.K CL H' t (fun b => H b = none) v → Q v H') := by
    refine ⟨fun pins s σ H Q I hw => ?_⟩
    obtain ⟨env, O, t, ok, hf, q⟩ := hw
    obtain ⟨ts, ht, hz⟩ := bind1 hf
    obtain ⟨r, hz, hr'⟩ := bind1 hz
    cases r with
    | exc c => cases hr'
    | wkv c => cases hr'
    | val t' =>
      cases hr'
      obtain ⟨k, fa, fd, ps, hm, hk, hb, hr, F⟩ := hT.fn f ts _ hf0 hz
      subst hx
      refine (pe_call F hr hg hm hk hb .nil passL h hd (star_ok hs) (back_ok hss)).run pins s σ H Q I ⟨env, O, ts, ok, ht, fun vs H1 e1 r1 => ?_⟩
      show spF X.K CL (Φ f) (vs ++ []) H1 Q E0
      rw [List.append_nil]
      refine ⟨ts, _, r1.top, hz, fun t' et v H' e' r' => ?_, (fun c z => nomatch z), (fun c z => nomatch z)⟩
      cases et
      exact q v H' (e1.trans e') (r'.mono fun b hb => ex_none e1 hb)
  refine ⟨fun pins s σ H Q I hw => ?_⟩
  obtain ⟨env, O, t, ok, hf, q⟩ := hw
  simp only [ev] at hf
  obtain ⟨x', hx', hz⟩ := bind1 hf
  cases x' with
  | tup us =>
    have hz' : atI us kk = some t := hz
    refine (pe_ix ix_tup hc (pe_int (i := kk)) (ix_ok rfl)).run pins s σ H Q I ⟨env, O, _, ok, hx', fun v H1 e1 r1 => ?_⟩
    obtain ⟨p', vs, rfl, h1, h2, _⟩ := rep_tup r1
    obtain ⟨w, h3, h4⟩ := h2.atI hz'
    refine ⟨p', vs, kk, w, rfl, rfl, h1, h3, q w H1 e1 (h4.mono fun b hb => ss_new ok hb) fun _ m => ?_⟩
    cases t with
    | lst ts => obtain ⟨a, vs, e, h, _⟩ := h4; exact ⟨a, e, h⟩
    | dct ks ts => obtain ⟨a, vs, e, h, _⟩ := h4; exact ⟨a, e, h⟩
    | obj ks ts => obtain ⟨a, vs, fs, e, h, _⟩ := h4; exact ⟨a, e, h⟩
    | _ => cases m
  | _ => cases hz
theorem e_call0 (hT : Tb X CL nm gv Φ) {f : Nat} {p : Pos} {x : Str} (hf0 : f < 10000) (hx : nm.fn f = x) (hg : Gl X x) (hd : (x == ("__debug__" : Str)) = false) : PE X (.Call (.Name x p) [] [] pos) (RE X.K CL fl H0 (ev gv Φ (.call f .nil)) (at_ fl (.call f .nil))) := by
  refine ⟨fun pins s σ H Q I hw => ?_⟩
  obtain ⟨env, O, t, ok, hf, q⟩ := hw
  simp only [ev, evs] at hf
  obtain ⟨r, hz, hr'⟩ := bind1 (x := Φ f []) hf
  cases r with
  | exc c => cases hr'
  | wkv c => cases hr'
  | val t' =>
    cases hr'
    obtain ⟨k, fa, fd, ps, hm, hk, hb, hr, F⟩ := hT.fn f [] _ hf0 hz
    subst hx
    refine (pe_call0 F hr hg hm hk hb .nil passL hd).run pins s σ H Q I ?_
    show spF X.K CL (Φ f) ([] ++ []) H Q E0
    refine ⟨[], _, rfl, hz, fun t' et v H' e' r' => ?_, (fun c z => nomatch z), (fun c z => nomatch z)⟩
    cases et
    obtain ⟨g1, g2⟩ := fresh_ss (ret := []) (nw := true) ok (Ex.refl H) r'
    exact q v H' e' g1 fun _ => g2
end
end Sb
set_option maxHeartbeats 2000000
namespace Sb
open PySem PySem.Spec PyProof.Rows L2
theorem zip_no_len : typeLookup (.type "zip") "__len__" = pure none := by rw [typeLookup_type, builtinLookup_eq_fast]; kernel_rfl
theorem zip_no_hint : typeLookup (.type "zip") "__length_hint__" = pure none := by rw [typeLookup_type, builtinLookup_eq_fast]; kernel_rfl
/-- the zip at turn i -/
structure ZSt (z TI TO i1 i2 l1 l2 : Addr) (i : Nat) (h : Heap) : Prop where
  ti : IsPair h TI (.ref i1) (.ref i2)
  a1 : h.IsListIter i1 l1 i
  a2 : h.IsListIter i2 l2 i
  to_ : ∃ o, h.get? TO = some o
  zz : (IsZip h z TI TO .none ∧ ∃ a b, IsPair h TO a b) ∨ ∃ T f oT, IsZipHeld h z TI TO T f ∧ h.get? T = some oT ∧ T ≠ z ∧ T ≠ i1 ∧ T ≠ i2
section
variable {X : Cx}
theorem sql_keep {K : PySem.W.Frag} {H H' : Hp} {a : Addr} {xs : List V} (h : SqL K H a xs) (k : ∀ o, H a = some o → H' a = some o) : SqL K H' a xs := by
  rcases h with (h | ⟨o, h⟩) | h
  · exact .inl (.inl (k _ h))
  · exact .inl (.inr ⟨o, k _ h⟩)
  · exact .inr h
theorem zipL_loop (hc : X.calm = true) {A : Around} (hh : A.handled = none) {pins : List (Addr × Obj)} {σ : L2.St} {a b z TI TO i1 i2 S : Addr} (D : ZipApart z TI TO i1 i2 a b) (hSz : S ≠ z) (hSI : S ≠ TI) (hSO : S ≠ TO) (hS1 : S ≠ i1) (hS2 : S ≠ i2) {xs ys : List V} {R : Result → Shared → Prop} {res : Value} :
    ∀ (k i : Nat) (H : Hp) (s : Shared) (ps : List Addr), k = min xs.length ys.length - i → i ≤ min xs.length ys.length → Inv X pins σ H s → (∀ c ∈ [z, TI, TO, i1, i2], FpOk X pins H c) → SqL X.K H a xs → SqL X.K H b ys → ZSt z TI TO i1 i2 a b i s.heap →
      H S = some (.lst (ps.map V.ref)) → ps.length = i → a ≠ S → b ≠ S → (∀ (j : Nat) (p : Addr), ps[j]? = some p → ∃ x y, xs[j]? = some x ∧ ys[j]? = some y ∧ H p = some (.tup [x, y])) →
      (∀ (H' : Hp) (s' : Shared) (ps' : List Addr), Inv X pins σ H' s' → (∀ c o, H c = some o → c ≠ S → H' c = some o) → H' S = some (.lst (ps'.map V.ref)) → ps'.length = min xs.length ys.length → (∀ (j : Nat) (p : Addr), ps'[j]? = some p → ∃ x y, xs[j]? = some x ∧ ys[j]? = some y ∧ H' p = some (.tup [x, y])) →
        R (.ok (.ret res)) s') →
      codeAny (model X.prog X.w) A (.builtin "list.extend.loop" ⟨[.ref S, .ref z, res], []⟩) R s := by
  intro k
  induction k with
  | zero =>
    intro i H s ps hk hi I hf hqx hqy st hS hl haS hbS hps hR
    have hin : i = min xs.length ys.length := by omega
    obtain ⟨its, rv, p, _⟩ := I.list hqx
    obtain ⟨its2, rv2, p2, _⟩ := I.list hqy
    have l1 := rv.length
    have l2 := rv2.length
    have he : its.toArray[i]? = none ∨ its2.toArray[i]? = none := by
      by_cases q : xs.length ≤ i
      · exact .inl (by simp; omega)
      · exact .inr (by simp; omega)
    refine codeAny_builtin F.entry_extend_loop ?_
    rw [Around.under_plainId F.plain_extend_loop _]
    show wpAny _ A.in1 (pyNext (.ref z) >>= _) _ _ s
    have fin : ∀ h', (∀ c o, c ≠ z → c ≠ TO → c ≠ i1 → c ≠ i2 → s.heap.get? c = some o → h'.get? c = some o) → R (.ok (.ret res)) { s with heap := h' } := fun h' hk' => by
      have I1 : Inv X pins σ H { s with heap := h' } := I.turnedL (t' := s.toks) (ch := [z, TI, TO, i1, i2]) (fun c o hb q =>
        hk' c o (fun q' => hb (by simp [q'])) (fun q' => hb (by simp [q'])) (fun q' => hb (by simp [q'])) (fun q' => hb (by simp [q'])) q) hf
      exact hR H _ ps I1 (fun _ _ q _ => q) hS (by omega) hps
    rcases st.zz with ⟨hz, x0, y0, hTO⟩ | ⟨T, f, oT, hz, hT, _, _, _⟩
    · refine wpAny_bind (wpAny_pyNext_zip_end (A := A.in1) hh D hz st.ti hTO st.a1 st.a2 p.isList p2.isList he fun h' hk' => ?_)
      exact wpAny_pure (fin h' hk')
    · refine wpAny_bind (wpAny_pyNext_zip_end_held (A := A.in1) hh D hz hT st.ti st.a1 st.a2 p.isList p2.isList he fun h' hk' => ?_)
      exact wpAny_pure (fin h' fun c o c1 _ c3 c4 q => hk' c o c1 c3 c4 q)
  | succ k ih =>
    intro i H s ps hk hi I hf hqx hqy st hS hl haS hbS hps hR
    have hlt : i < xs.length ∧ i < ys.length := by omega
    obtain ⟨its, rv, p, hsx⟩ := I.list hqx
    obtain ⟨its2, rv2, p2, _⟩ := I.list hqy
    have hx : xs[i]? = some xs[i] := List.getElem?_eq_getElem hlt.1
    have hy : ys[i]? = some ys[i] := List.getElem?_eq_getElem hlt.2
    obtain ⟨u, hu, ru⟩ := rv.get hx
    obtain ⟨u2, hu2, ru2⟩ := rv2.get hy
    refine codeAny_builtin F.entry_extend_loop ?_
    rw [Around.under_plainId F.plain_extend_loop _]
    show wpAny _ A.in1 (pyNext (.ref z) >>= _) _ _ s
    have hzl : z < s.heap.objs.size := by
      rcases st.zz with ⟨hz, _⟩ | ⟨_, _, _, hz, _⟩
      · exact Heap.lt_size hz
      · exact Heap.lt_size hz
    have hTIl : TI < s.heap.objs.size := Heap.lt_size st.ti
    have h1l : i1 < s.heap.objs.size := by obtain ⟨_, e1, _⟩ := st.a1; exact Heap.lt_size e1
    have h2l : i2 < s.heap.objs.size := by obtain ⟨_, e1, _⟩ := st.a2; exact Heap.lt_size e1
    have hHT : H s.heap.objs.size = none := I.hok.fresh (Nat.le_refl _)
    have hST : S ≠ s.heap.objs.size := fun q => by rw [q, hHT] at hS; cases hS
    have go : ∀ h', (IsZipHeld h' z TI TO s.heap.objs.size false ∨ ∃ T oT, IsZipHeld h' z TI TO T true ∧ h'.get? T = some oT ∧ T ≠ z ∧ T ≠ i1 ∧ T ≠ i2) → IsPair h' TI (.ref i1) (.ref i2) → (∃ o, h'.get? TO = some o) → h'.IsListIter i1 a (i + 1) → h'.IsListIter i2 b (i + 1) → IsPair h' s.heap.objs.size u u2 →
        (∀ c o, c ≠ z → c ≠ TO → c ≠ i1 → c ≠ i2 → s.heap.get? c = some o → h'.get? c = some o) →
        wpAny (model X.prog X.w) A.in1 (updateSeq S (·.push (.ref s.heap.objs.size)) >>= fun _ => again (.builtin "list.extend.loop" ⟨[.ref S, .ref z, res], []⟩))
          (fun fin s' => match fin with | .done f => R (.ok f) s' | .again c' => c'.quiet = true ∧ codeAny (model X.prog X.w) A c' R s') (fun e s' => R (.error e) s') { s with heap := h' } := by
      intro h' z' TI' TO' h1' h2' hT hk'
      have new : ObjOk X.prog X.w (upd H s.heap.objs.size (.tup [xs[i], ys[i]])) h' s.heap.objs.size (.tup [xs[i], ys[i]]) :=
        ⟨by show 2 ≤ sizeLine; decide, [u, u2], .cons ru (.cons ru2 .nil), ⟨_, hT, rfl, _, rfl⟩⟩
      have I1 : Inv X pins σ (upd H s.heap.objs.size (.tup [xs[i], ys[i]])) { s with heap := h' } :=
        I.turnedNew (t' := s.toks) (ch := [z, TI, TO, i1, i2]) (fun c o hb q => hk' c o (fun q' => hb (by simp [q'])) (fun q' => hb (by simp [q'])) (fun q' => hb (by simp [q'])) (fun q' => hb (by simp [q'])) q) hf (Nat.le_refl _) new
      have hS' : upd H s.heap.objs.size (.tup [xs[i], ys[i]]) S = some (.lst (ps.map V.ref)) := by rw [upd_ne hST]; exact hS
      obtain ⟨zl, its0, n0, r0, hl0, e0⟩ := I1.lstM hS'
      rw [List.length_map] at hl0
      refine wpAny_bind (wpAny_updateSeq e0 rfl (wpAny_pure ⟨plainId_quiet F.plain_extend_loop _, ?_⟩) (by simp; omega) (by simp; omega))
      have I2 := I1.lset (t' := s.toks) (its' := its0 ++ [.ref s.heap.objs.size]) (f := (·.push (.ref s.heap.objs.size))) (ys := (ps ++ [s.heap.objs.size]).map V.ref) hS' e0 (by simp) (by rw [List.map_append]; exact r0.append (.cons rfl .nil)) (by simp; omega)
      have kS : ∀ c o, c ≠ S → h'.get? c = some o → (h'.update S (Obj.mapSeq (·.push (.ref s.heap.objs.size)))).get? c = some o := fun c o hc e => (Heap.get?_update_other _ _ (Ne.symm hc)).trans e
      have kH : ∀ c o, H c = some o → c ≠ S → upd (upd H s.heap.objs.size (.tup [xs[i], ys[i]])) S (.lst ((ps ++ [s.heap.objs.size]).map V.ref)) c = some o := fun c o e hc => by
        rw [upd_ne hc, upd_ne (ne_of_none e hHT)]; exact e
      refine ih (i + 1) _ _ (ps ++ [s.heap.objs.size]) (by omega) (by omega) I2 (fun c hcm => ?_) ?_ ?_ ⟨kS _ _ (Ne.symm hSI) TI', h1'.at fun o e => kS _ _ (Ne.symm hS1) e, h2'.at fun o e => kS _ _ (Ne.symm hS2) e, ?_, ?_⟩ upd_same (by simp [hl]) haS hbS (fun j q hj => ?_) fun H' s' ps' J kk => hR H' s' ps' J fun c o e hc => kk c o (kH c o e hc) hc
      · have hlt' : c < s.heap.objs.size := by
          have e' : c = z ∨ c = TI ∨ c = TO ∨ c = i1 ∨ c = i2 := by simpa using hcm
          rcases e' with q | q | q | q | q
          · rw [q]; exact hzl
          · rw [q]; exact hTIl
          · rw [q]; obtain ⟨o, e⟩ := st.to_; exact Heap.lt_size e
          · rw [q]; exact h1l
          · rw [q]; exact h2l
        have hne : c ≠ s.heap.objs.size := Nat.ne_of_lt hlt'
        have hcS : c ≠ S := by
          have e' : c = z ∨ c = TI ∨ c = TO ∨ c = i1 ∨ c = i2 := by simpa using hcm
          rcases e' with q | q | q | q | q
          · rw [q]; exact Ne.symm hSz
          · rw [q]; exact Ne.symm hSI
          · rw [q]; exact Ne.symm hSO
          · rw [q]; exact Ne.symm hS1
          · rw [q]; exact Ne.symm hS2
        exact ⟨by rw [upd_ne hcS, upd_ne hne]; exact (hf c hcm).1, (hf c hcm).2⟩
      · exact sql_keep hqx fun o e => kH a o e haS
      · exact sql_keep hqy fun o e => kH b o e hbS
      · obtain ⟨o, e⟩ := TO'
        exact ⟨o, kS _ _ (Ne.symm hSO) e⟩
      · refine .inr ?_
        rcases z' with z' | ⟨T, oT, z', hT', n1, n2, n3⟩
        · exact ⟨_, _, _, kS _ _ (Ne.symm hSz) z', kS _ _ (Ne.symm hST) hT, Nat.ne_of_gt hzl, Nat.ne_of_gt h1l, Nat.ne_of_gt h2l⟩
        · by_cases hTS : T = S
          · subst hTS
            have e9 := Heap.get?_update_self (Obj.mapSeq (·.push (.ref s.heap.objs.size))) e0 rfl
            exact ⟨_, _, _, kS _ _ (Ne.symm hSz) z', e9, n1, n2, n3⟩
          · exact ⟨_, _, _, kS _ _ (Ne.symm hSz) z', kS _ _ hTS hT', n1, n2, n3⟩
      · by_cases hji : j < ps.length
        · rw [List.getElem?_append_left hji] at hj
          obtain ⟨x, y, q1, q2, q3⟩ := hps j q hj
          exact ⟨x, y, q1, q2, kH q _ q3 fun w => by rw [w, hS] at q3; cases q3⟩
        · have ej : j = ps.length := by
            have := (List.getElem?_eq_some_iff.mp hj).1
            simp at this; omega
          subst ej
          rw [List.getElem?_append_right (Nat.le_refl _), Nat.sub_self] at hj
          cases hj
          exact ⟨xs[i], ys[i], by rw [hl]; exact hx, by rw [hl]; exact hy, by rw [upd_ne (Ne.symm hST), upd_same]⟩
    rcases st.zz with ⟨hz, x0, y0, hTO⟩ | ⟨T, f, oT, hz, hT, n1, n2, n3⟩
    · refine wpAny_bind (wpAny_pyNext_zip_item (A := A.in1) D hz st.ti hTO st.a1 st.a2 p.isList p2.isList (x := u) (y := u2) (by simpa using hu) (by simpa using hu2) fun h' z' TO' h1' h2' hT hsz hk' => ?_)
      exact go h' (.inl z') (hk' _ _ D.TIz D.TITO D.TIi1 D.TIi2 st.ti) ⟨_, TO'⟩ h1' h2' hT hk'
    · refine wpAny_bind (wpAny_pyNext_zip_item_held (A := A.in1) D hz hT st.ti st.a1 st.a2 p.isList p2.isList (x := u) (y := u2) (by simpa using hu) (by simpa using hu2) fun h' z' h1' h2' hT2 hsz hk' => ?_)
      obtain ⟨o, e⟩ := st.to_
      exact go h' (.inr ⟨T, oT, z', hk' _ _ n1 n2 n3 hT, n1, n2, n3⟩) (hk' _ _ D.TIz D.TIi1 D.TIi2 st.ti) ⟨o, hk' _ _ D.TOz D.TOi1 D.TOi2 e⟩ h1' h2' hT2 fun c o c1 _ c3 c4 q => hk' c o c1 c3 c4 q
theorem call_listZ (hc : X.calm = true) {A : Around} (hh : A.handled = none) {pins : List (Addr × Obj)} {σ : L2.St} {H : Hp} {s : Shared} {a b z TI TO i1 i2 : Addr} {x0 y0 : Value} {xs ys : List V} {Q : Value → Shared → Prop} {E : Value → Shared → Prop} (D : ZipApart z TI TO i1 i2 a b) (I : Inv X pins σ H s)
    (hf : ∀ c ∈ [z, TI, TO, i1, i2], FpOk X pins H c) (hqx : SqL X.K H a xs) (hqy : SqL X.K H b ys) (hz : IsZip s.heap z TI TO .none) (hTI : IsPair s.heap TI (.ref i1) (.ref i2)) (hTO : IsPair s.heap TO x0 y0) (h1 : s.heap.IsListIter i1 a 0) (h2 : s.heap.IsListIter i2 b 0)
    (hQ : ∀ (H' : Hp) (s' : Shared) (S : Addr) (ps : List Addr), Inv X pins σ H' s' → Evl.Ex H H' → H S = none → H' S = some (.lst (ps.map V.ref)) → ps.length = min xs.length ys.length → (∀ (j : Nat) (p : Addr), ps[j]? = some p → ∃ x y, xs[j]? = some x ∧ ys[j]? = some y ∧ H' p = some (.tup [x, y])) → Q (.ref S) s') :
    wpAny (model X.prog X.w) A (PySem.call (.type "list") [.ref z]) Q E s := by
  have hzl : z < s.heap.objs.size := Heap.lt_size hz
  have hTIl : TI < s.heap.objs.size := Heap.lt_size hTI
  have hTOl : TO < s.heap.objs.size := Heap.lt_size hTO
  have h1l : i1 < s.heap.objs.size := by obtain ⟨_, e1, _⟩ := h1; exact Heap.lt_size e1
  have h2l : i2 < s.heap.objs.size := by obtain ⟨_, e1, _⟩ := h2; exact Heap.lt_size e1
  obtain ⟨its, rv, p, _⟩ := I.list hqx
  obtain ⟨its2, rv2, p2, _⟩ := I.list hqy
  have la : a < s.heap.objs.size := p.lt
  have lb : b < s.heap.objs.size := p2.lt
  have hHS : H s.heap.objs.size = none := I.hok.fresh (Nat.le_refl _)
  refine callType_codes (Q₁ := fun obj s₁ => obj = .ref s.heap.objs.size ∧ s₁ = { s with heap := s.heap.push { cls := .type "list", data := .seq #[] } }) F.called_list (F.typeCall_list_1 _) F.entry_list_init
    (code_list_new _ ⟨rfl, rfl⟩) fun obj s₁ h₁ => ?_
  obtain ⟨rfl, rfl⟩ := h₁
  have hS : (s.heap.push { cls := .type "list", data := .seq #[] }).get? s.heap.objs.size = some { cls := .type "list", data := .seq #[] } := Heap.get?_push_size _ rfl
  refine ⟨⟨_, hS, rfl⟩, F.args_list_init_2 _ _, ?_⟩
  have k0 : ∀ b o, s.heap.get? b = some o → (s.heap.push { cls := .type "list", data := .seq #[] }).get? b = some o := fun b o e => Heap.get?_push_of_some _ e
  show wpAny _ _ (do let old ← Builtin.List.listItems (.ref s.heap.objs.size); Builtin.List.listUpdate (.ref s.heap.objs.size) (fun _ => #[]); letGo old.toList.reverse; Builtin.List.listExtendWith (.ref s.heap.objs.size) (.ref z) .none) _ _ _
  refine wpAny_bind ?_
  unfold Builtin.List.listItems
  refine wpAny_bind (wpAny_seqItems hS rfl (wpAny_pure ?_))
  show wpAny _ _ (updateSeq s.heap.objs.size (fun _ => #[]) >>= fun _ => letGo (#[] : Array Value).toList.reverse >>= fun _ => Builtin.List.listExtendWith (.ref s.heap.objs.size) (.ref z) .none) _ _ _
  refine wpAny_bind (wpAny_updateSeq hS rfl ?_)
  have hS₂ := Heap.get?_update_self (Obj.mapSeq (fun _ => (#[] : Array Value))) hS rfl
  have k1 : ∀ b o, s.heap.get? b = some o → ((s.heap.push { cls := .type "list", data := .seq #[] }).update s.heap.objs.size (Obj.mapSeq (fun _ => (#[] : Array Value)))).get? b = some o :=
    fun b o e => (Heap.get?_update_other _ _ (Nat.ne_of_gt (Heap.lt_size e))).trans (k0 b o e)
  refine wpAny_bind (wpAny_letGo ?_)
  generalize (s.heap.push { cls := .type "list", data := .seq #[] }).update s.heap.objs.size (Obj.mapSeq (fun _ => (#[] : Array Value))) = hp₁ at hS₂ k1 ⊢
  unfold Builtin.List.listExtendWith
  have hz1 := k1 _ _ hz
  have hT : ({ s with heap := hp₁ } : Shared).TypeIs (.ref z) "zip" := ⟨_, hz1, rfl⟩
  refine wpAny_bind (wpAny_typeOf (T := "zip") hT ?_)
  have g1 : Builtin.List.listSameRef (.ref s.heap.objs.size) (.ref z) = false := by simp [Builtin.List.listSameRef, Nat.ne_of_gt hzl]
  have g2 : (Value.type "zip" == Value.type "list") = false := by decide
  have g3 : (Value.type "zip" == Value.type "tuple") = false := by decide
  simp only [g1, g2, g3, Bool.or_false, Bool.false_eq_true, if_false]
  refine wpAny_bind (wpAny_pyIter_zip hz1 ?_)
  refine wpAny_bind (wpAny_holding ?_)
  unfold Builtin.List.listLengthHint
  refine wpAny_bind (wpAny_specialOf hT zip_no_len ?_)
  show wpAny _ _ (specialOf (Value.ref z) (Str.ofString "__length_hint__") >>= _) _ _ _
  refine wpAny_bind (wpAny_specialOf hT zip_no_hint ?_)
  refine wpAny_pure ?_
  show wpAny _ _ (rule "list.extend.makes-room" >>= fun _ => Builtin.List.listTouch (.ref s.heap.objs.size) >>= fun _ =>
    again (.builtin "list.extend.loop" ⟨[.ref s.heap.objs.size, .ref z, .none], []⟩)) _ _ _
  refine wpAny_bind (wpAny_rule ?_)
  refine wpAny_bind ?_
  show wpAny _ _ (updateSeq s.heap.objs.size (·.push .none) >>= fun _ => updateSeq s.heap.objs.size (·.pop)) _ _ _
  refine wpAny_bind (wpAny_updateSeq hS₂ rfl ?_)
  have hS₃ := Heap.get?_update_self (Obj.mapSeq (·.push Value.none)) hS₂ rfl
  refine wpAny_updateSeq hS₃ rfl ?_
  have hS₄ := Heap.get?_update_self (Obj.mapSeq (·.pop)) hS₃ rfl
  have k3 : ∀ b o, s.heap.get? b = some o → ((hp₁.update s.heap.objs.size (Obj.mapSeq (·.push Value.none))).update s.heap.objs.size (Obj.mapSeq (·.pop))).get? b = some o :=
    fun b o e => (Heap.get?_update_other _ _ (Nat.ne_of_gt (Heap.lt_size e))).trans ((Heap.get?_update_other _ _ (Nat.ne_of_gt (Heap.lt_size e))).trans (k1 b o e))
  generalize (hp₁.update s.heap.objs.size (Obj.mapSeq (·.push Value.none))).update s.heap.objs.size (Obj.mapSeq (·.pop)) = hp₂ at hS₄ k3 ⊢
  have I2 : Inv X pins σ (upd H s.heap.objs.size (.lst [])) { s with heap := hp₂ } := I.laid (t' := s.toks) k3 (Nat.le_refl _) (show ObjOk X.prog X.w _ _ _ (.lst []) from ⟨Nat.zero_le _, [], _, .nil, hS₄⟩)
  refine wpAny_pure ⟨plainId_quiet F.plain_extend_loop _, zipL_loop (X := X) hc (A := A.in1) hh (pins := pins) (σ := σ) (S := s.heap.objs.size) (xs := xs) (ys := ys) D (Nat.ne_of_gt hzl) (Nat.ne_of_gt hTIl) (Nat.ne_of_gt hTOl) (Nat.ne_of_gt h1l) (Nat.ne_of_gt h2l) _ 0 _ _ [] rfl (Nat.zero_le _) I2 (fun c hcm => ?_) ?_ ?_
    ⟨k3 _ _ hTI, h1.at fun o e => k3 _ o e, h2.at fun o e => k3 _ o e, ⟨_, k3 _ _ hTO⟩, .inl ⟨k3 _ _ hz, _, _, k3 _ _ hTO⟩⟩ upd_same rfl (Nat.ne_of_lt la) (Nat.ne_of_lt lb) (fun j p e => by simp at e) fun H' s' ps' I' k' hS' hl' hp' => ?_⟩
  · have hlt' : c < s.heap.objs.size := by
      have e' : c = z ∨ c = TI ∨ c = TO ∨ c = i1 ∨ c = i2 := by simpa using hcm
      rcases e' with q | q | q | q | q
      · rw [q]; exact hzl
      · rw [q]; exact hTIl
      · rw [q]; exact hTOl
      · rw [q]; exact h1l
      · rw [q]; exact h2l
    exact ⟨by rw [upd_ne (Nat.ne_of_lt hlt')]; exact (hf c hcm).1, (hf c hcm).2⟩
  · exact sql_keep hqx fun o e => by rw [upd_ne (Nat.ne_of_lt la)]; exact e
  · exact sql_keep hqy fun o e => by rw [upd_ne (Nat.ne_of_lt lb)]; exact e
  · exact ⟨rfl, hQ H' s' _ ps' I' (fun c o e => k' c o (by rw [upd_ne (ne_of_none e hHS)]; exact e) (ne_of_none e hHS)) hHS hS' hl' hp'⟩
def tLz (X : Cx) (ta : TA) : TE := fun σ H Q => ta σ H fun vs H1 => ∃ a b xs ys, vs = [.ref a, .ref b] ∧ SqL X.K H1 a xs ∧ SqL X.K H1 b ys ∧ ∀ (S : Addr) (ps : List Addr) (H' : Hp), Evl.Ex H1 H' → H1 S = none → H' S = some (.lst (ps.map V.ref)) → ps.length = min xs.length ys.length →
  (∀ (j : Nat) (p : Addr), ps[j]? = some p → ∃ x y, xs[j]? = some x ∧ ys[j]? = some y ∧ H' p = some (.tup [x, y])) → Q (.ref S) H'
theorem pe_lzip (hc : X.calm = true) {e e2 : Expr} {ta : TA} {p p2 pos pos2 : Pos} (hg : Gl X "list") (hm : X.mg "list" = none) (hg2 : Gl X "zip") (hm2 : X.mg "zip" = none) (ha : PA X [e, e2] ta) (hs : starEach [e, e2] X.env = (false, eval e X.env) :: starEach [e2] X.env) (hpl : (backTo pos2 (starEach [e2] X.env)).any (·.1) = false) :
    PE X (.Call (.Name "list" p) [.Call (.Name "zip" p2) [e, e2] [] pos2] [] pos) (tLz X ta) := by
  refine ⟨fun pins s σ H Q I h => ?_⟩
  refine Call_ (ld_blt I hg hm PyProof.Rows.boot_list (PyProof.Rows.callWith_type1 (args_cons ?_ rfl) rfl))
  refine Call_ (ld_blt I hg2 hm2 PyProof.Rows.boot_zip (PyProof.Rows.callWith_type1 (thn (ha.run pos2 pins s σ H _ I h) fun us s1 ⟨vs, H1, I1, r1, q1⟩ => ?_) hs hpl))
  obtain ⟨a, b, xs, ys, ex, hqx, hqy, q⟩ := q1
  subst ex
  cases r1 with
  | cons r rr =>
    cases rr with
    | cons r' rr =>
      cases rr
      cases r
      cases r'
      obtain ⟨its, rv, p1, _⟩ := I1.list hqx
      obtain ⟨its2, rv2, p2, _⟩ := I1.list hqy
      have la : a < s1.heap.objs.size := p1.lt
      have lb : b < s1.heap.objs.size := p2.lt
      refine call_zip_2 p1.isList p2.isList fun h' hz hTI hTO h1 h2 hsz hk => args_nil ?_
      have I2 : Inv X pins σ H1 { s1 with heap := h' } := I1.kept (t' := s1.toks) hk
      refine call_listZ hc (I2.ok.hd hc) (PySem.W.ktu_apart s1.heap.objs.size a b la lb) I2 (fun c hcm => ?_) hqx hqy hz hTI hTO h1 h2 fun H' s' S ps I' e' hS hS' hl hp => ⟨.ref S, H', I', rfl, q S ps H' e' hS hS' hl hp⟩
      have e' : c = s1.heap.objs.size + 4 ∨ c = s1.heap.objs.size + 2 ∨ c = s1.heap.objs.size + 3 ∨ c = s1.heap.objs.size ∨ c = s1.heap.objs.size + 1 := by simpa using hcm
      have hle : s1.heap.objs.size ≤ c := by
        rcases e' with z | z | z | z | z
        · rw [z]; exact Nat.le_add_right _ _
        · rw [z]; exact Nat.le_add_right _ _
        · rw [z]; exact Nat.le_add_right _ _
        · rw [z]; exact Nat.le_refl _
        · rw [z]; exact Nat.le_add_right _ _
      exact I1.fpOk hle (I1.hok.fresh hle)
end
end Sb
set_option maxHeartbeats 2000000
namespace Sb
open PySem PySem.Spec PyProof.Rows L2
section
variable {prog : Program} {w : World} {A : Around} {E : Value → Shared → Prop}
theorem is_keep {h h' : Heap} {ks : List L2.Key} {a : Addr} (x : (tupleKind (mixKind prog w)).is h ks a) (k : ∀ o, h.get? a = some o → o.cls = .type "tuple" → h'.get? a = some o) : (tupleKind (mixKind prog w)).is h' ks a := by
  obtain ⟨o, its, n, h1, h2, h3, h4⟩ := x
  exact ⟨o, its, n, k o h1 h2, h2, h3, h4⟩
theorem dh_keep {h h' : Heap} {d : Addr} {xs : List (List L2.Key × Addr × Value)} (m : h.DictOfH (tupleKind (mixKind prog w)) d xs) (kd : ∀ o, h.get? d = some o → h'.get? d = some o) (kt : ∀ b o, h.get? b = some o → o.cls = .type "tuple" → h'.get? b = some o) :
    h'.DictOfH (tupleKind (mixKind prog w)) d xs := by
  obtain ⟨o, es, ep, ho, hc, hd, he, his, hn⟩ := m
  exact ⟨o, es, ep, kd o ho, hc, hd, he, fun x hx => is_keep (his x hx) fun o h1 h2 => kt _ o h1 h2, hn⟩
def mergedH (acc rest : List (List L2.Key × Addr × Value)) : List (List L2.Key × Addr × Value) := rest.foldl (fun a q => storedH a q.1 q.2.1 q.2.2) acc
theorem storedH_length_le (xs : List (List L2.Key × Addr × Value)) (k : List L2.Key) (a : Addr) (v : Value) : (storedH xs k a v).length ≤ xs.length + 1 := by
  unfold storedH
  split <;> simp
theorem upd_loopH {R : Result → Shared → Prop} {S I l : Addr} {items : Array Value} {res : Value} (hu : A.units + 1 < cLine) (hh : A.handled = none) (hlI : l ≠ I) (hSI : S ≠ I) (hSl : S ≠ l) :
    ∀ (rest : List (List L2.Key × Addr × Value)) (i : Nat) (acc : List (List L2.Key × Addr × Value)) (ix : Int) (t : Tok) (s : Shared), items.size = i + rest.length → acc.length + rest.length ≤ sizeLine →
      (∀ (j : Nat) (q : List L2.Key × Addr × Value), rest[j]? = some q → ∃ (b : Addr), items[i + j]? = some (.ref b) ∧ b ≠ S ∧ b ≠ I ∧ IsTup s.heap b #[.ref q.2.1, q.2.2] ∧ (tupleKind (mixKind prog w)).is s.heap q.1 q.2.1) →
      s.heap.IsListIter I l i → s.heap.IsList l items → s.heap.DictOfH (tupleKind (mixKind prog w)) S acc →
      (∀ h' tk, h'.DictOfH (tupleKind (mixKind prog w)) S (mergedH acc rest) → (∀ b o, b ≠ S → b ≠ I → s.heap.get? b = some o → h'.get? b = some o) → R (.ok (.ret res)) { s with heap := h', toks := tk }) →
      codeAny (model prog w) A (.builtin "dict.update.loop" ⟨[.ref S, .ref I, .int ix t, res], []⟩) R s
  | [], i, acc, ix, t, s, hsz, hln, ht, hit, hl, hm, hR => by
    have hIc : ∀ o, s.heap.get? I = some o → o.cls ≠ .type "tuple" := fun o e z => by
      obtain ⟨o', h1, h2, _⟩ := hit
      rw [h1] at e
      cases e
      rw [h2] at z
      exact absurd z (by decide)
    refine codeAny_builtin ud_entry ?_
    rw [Around.under_plainId ud_plain _]
    show wpAny _ A.in1 (pyNext (.ref I) >>= _) _ _ s
    refine wpAny_bind (wpAny_pyNext_list_end (A := A.in1) hh hit hl (by first | exact Array.getElem?_eq_none (Nat.le_of_eq hsz) | (simp at hsz; simp; omega)) fun h' he => ?_)
    show wpAny _ A.in1 (Builtin.Dict.addKeywords S [] >>= _) _ _ _
    refine wpAny_bind (wpAny_pure (wpAny_pure ?_))
    exact hR h' s.toks (dh_keep hm (fun o e => he S o hSI e) fun b o e hc => he b o (fun z => hIc o (by rw [← z]; exact e) hc) e) fun b o _ hb e => he b o hb e
  | q :: rest, i, acc, ix, t, s, hsz, hln, ht, hit, hl, hm, hR => by
    obtain ⟨b, hb, hbS, hbI, htup, hk⟩ := ht 0 q rfl
    rw [List.length_cons] at hsz hln
    have hIc : ∀ o, s.heap.get? I = some o → o.cls ≠ .type "tuple" := fun o e z => by
      obtain ⟨o', h1, h2, _⟩ := hit
      rw [h1] at e
      cases e
      rw [h2] at z
      exact absurd z (by decide)
    have hSc : ∀ o, s.heap.get? S = some o → o.cls ≠ .type "tuple" := fun o e z => by
      obtain ⟨o', es, ep, h1, h2, _⟩ := hm
      rw [h1] at e
      cases e
      rw [h2.1] at z
      exact absurd z (by decide)
    refine codeAny_builtin ud_entry ?_
    rw [Around.under_plainId ud_plain _]
    show wpAny _ A.in1 (pyNext (.ref I) >>= _) _ _ s
    refine wpAny_bind (wpAny_pyNext_list_item (x := .ref b) hit hl (by simpa using hb) fun h1 hit1 hs1 => ?_)
    have kt1 : ∀ b o, s.heap.get? b = some o → o.cls = .type "tuple" → h1.get? b = some o := fun b o e hc => hs1.extBut b o (fun z => hIc o (by rw [← z]; exact e) hc) e
    have ht1 : IsTup h1 b #[.ref q.2.1, q.2.2] := htup.extBut hs1.extBut hbI
    have hl1 : h1.IsList l items := hl.extBut hs1.extBut hlI
    have hm1 : h1.DictOfH (tupleKind (mixKind prog w)) S acc := dh_keep hm (fun o e => hs1.extBut S o hSI e) kt1
    obtain ⟨o, ho, hc, n, hd⟩ := id ht1
    show wpAny _ A.in1 (holding [Value.ref b] _ >>= _) _ _ _
    refine wpAny_bind (wpAny_holding ?_)
    refine wpAny_bind (wpAny_tryCatch ?_)
    unfold Builtin.Dict.pairItems
    refine wpAny_bind (wpAny_typeOf (T := "tuple") ⟨o, ho, hc⟩ ?_)
    rw [if_pos (by first | decide | rfl | simp)]
    refine wpAny_bind (wpAny_seqItems ho hd (wpAny_pure ?_))
    show wpAny _ A.in1 (holding [Value.ref q.2.1, q.2.2] (dictSet S (.ref q.2.1) q.2.2)) _ _ _
    refine wpAny_holding (wpAny_dictSet_heap (knd := tupleKind (mixKind prog w)) (k := q.1) (tupleKind_room_in1 hu) (is_keep hk fun o e hc => kt1 _ o e hc) hm1 (fun h2 hm2 hs2 => ?_) (by omega))
    have kt2 : ∀ b o, h1.get? b = some o → o.cls = .type "tuple" → h2.get? b = some o := fun b o e hc => by
      refine hs2.extBut b o (fun z => ?_) e
      obtain ⟨o', es, ep, g1, g2, _⟩ := hm1
      rw [z, g1] at e
      cases e
      rw [g2.1] at hc
      exact absurd hc (by decide)
    refine wpAny_pure ⟨plainId_quiet ud_plain _, upd_loopH (items := items) hu hh hlI hSI hSl rest (i + 1) (storedH acc q.1 q.2.1 q.2.2) (ix + 1) 0 _ (show items.size = i + 1 + rest.length by omega) ?_ (fun j q' e => ?_) ?_ ?_ hm2 fun h' tk hd' k => ?_⟩
    · have z := storedH_length_le acc q.1 q.2.1 q.2.2
      omega
    · obtain ⟨b', hb', hbS', hbI', htup', hk'⟩ := ht (j + 1) q' (by simpa using e)
      refine ⟨b', ?_, hbS', hbI', (htup'.extBut hs1.extBut hbI').extBut hs2.extBut hbS', is_keep (is_keep hk' fun o e hc => kt1 _ o e hc) fun o e hc => kt2 _ o e hc⟩
      rw [show i + 1 + j = i + (j + 1) by omega]
      exact hb'
    · exact hit1.at fun o' e => hs2.extBut I o' (Ne.symm hSI) e
    · exact hl1.extBut hs2.extBut (Ne.symm hSl)
    · exact hR h' tk hd' fun c oc h3 h4 e => k c oc h3 h4 (hs2.extBut c oc h3 (hs1.extBut c oc h4 e))
theorem call_dict_pairsH {s : Shared} {l : Addr} {ol : Obj} {items : Array Value} {n : Nat} {prs : List (List L2.Key × Addr × Value)} {Q : Value → Shared → Prop} (hu : A.units + 2 < cLine) (hh : A.handled = none) (hl : s.heap.get? l = some ol) (hc : ol.cls = .type "list") (hd : ol.dict = none)
    (hdat : ol.data = .seq items n) (hsz : items.size = prs.length) (hln : prs.length ≤ sizeLine)
    (ht : ∀ (j : Nat) (q : List L2.Key × Addr × Value), prs[j]? = some q → ∃ (b : Addr), items[j]? = some (.ref b) ∧ IsTup s.heap b #[.ref q.2.1, q.2.2] ∧ (tupleKind (mixKind prog w)).is s.heap q.1 q.2.1)
    (h : ∀ h' tk, h'.DictOfH (tupleKind (mixKind prog w)) s.heap.objs.size (mergedH [] prs) → (∀ b o, s.heap.get? b = some o → h'.get? b = some o) → Q (.ref s.heap.objs.size) { s with heap := h', toks := tk }) :
    wpAny (model prog w) A (PySem.call (.type "dict") [.ref l]) Q E s := by
  refine callType_codes (Q₁ := fun obj s₁ => obj = .ref s.heap.objs.size ∧ s₁ = { s with heap := s.heap.push { cls := .type "dict", data := .dict #[] } }) PySem.F.kt_called_dict (PySem.F.kt_typeCall_dict_1 _) PySem.F.entry_dict_init (kt_code_dict_new _ ⟨rfl, rfl⟩) ?_
  rintro obj s₁ ⟨rfl, rfl⟩
  have hnew : (s.heap.push { cls := .type "dict", data := .dict #[] }).DictOfH (tupleKind (mixKind prog w)) s.heap.objs.size [] := ⟨_, #[], 0, Heap.get?_push_size _ rfl, ⟨rfl, rfl, rfl⟩, rfl, rfl, (fun x hx => by cases hx), List.nodup_nil⟩
  have hty : (s.heap.push { cls := .type "dict", data := .dict #[] }).get? s.heap.objs.size = some { cls := .type "dict", data := .dict #[] } := Heap.get?_push_size _ rfl
  have hnt : ({ s with heap := s.heap.push { cls := .type "dict", data := .dict #[] } } : Shared).TypeIs (.ref s.heap.objs.size) "dict" := ⟨_, hty, rfl⟩
  have k0 : ∀ b o, s.heap.get? b = some o → (s.heap.push { cls := .type "dict", data := .dict #[] }).get? b = some o := fun b o e => Heap.get?_push_of_some _ e
  refine ⟨hnt, PySem.F.args_dict_init_2 _ _, ?_⟩
  unfold Builtin.«dict.__init__»
  refine wpAny_bind ?_
  unfold Builtin.Dict.selfAndRest
  refine wpAny_bind (wpAny_notOrdered_dict hnt ?_)
  show wpAny _ _ (pure (s.heap.objs.size, [Value.ref l])) _ _ _
  refine wpAny_pure ?_
  show wpAny _ _ (Builtin.Dict.updateFrom "dict.__init__" s.heap.objs.size (.ref l) [] .none) _ _ _
  unfold Builtin.Dict.updateFrom
  refine wpAny_bind (wpAny_typeOf (T := "list") ⟨ol, k0 _ _ hl, hc⟩ ?_)
  rw [if_pos (by first | decide | rfl | simp)]
  refine wpAny_bind (miss_list (k0 _ _ hl) hc hdat hd hh fun h1 tk1 hk1 => ?_)
  rw [if_pos (show (none : Option Value).isNone = true from rfl)]
  refine wpAny_bind (wpAny_rule ?_)
  have hl1 : h1.IsList l items := ⟨ol, hk1 _ _ (k0 _ _ hl), hc, n, hdat⟩
  have hS1 : s.heap.objs.size < h1.objs.size := Heap.lt_size (hk1 _ _ hty)
  refine wpAny_bind (wpAny_pyIter_list hl1 ?_)
  have k2 : ∀ b o, h1.get? b = some o → (h1.push { cls := .type "list_iterator", data := .fields #[.ref l, .int 0 0] }).get? b = some o := fun b o e => Heap.get?_push_of_some _ e
  have hlt : l < s.heap.objs.size := Heap.lt_size hl
  have kA : ∀ b o, s.heap.get? b = some o → (h1.push { cls := .type "list_iterator", data := .fields #[.ref l, .int 0 0] }).get? b = some o := fun b o e => k2 _ _ (hk1 _ _ (k0 _ _ e))
  have key := upd_loopH (prog := prog) (w := w) (A := A.in1) (R := wants (fun r s₂ => r = .none ∧ Q (.ref s.heap.objs.size) s₂) E) (S := s.heap.objs.size) (I := h1.objs.size) (l := l) (items := items) (res := Value.none) (show A.units + 1 + 1 < cLine from hu) hh
    (Nat.ne_of_lt (Nat.lt_trans hlt hS1)) (Nat.ne_of_lt hS1) (Nat.ne_of_gt hlt) prs 0 [] 0 0
    { s with heap := h1.push { cls := .type "list_iterator", data := .fields #[.ref l, .int 0 0] }, toks := tk1 } (by rw [hsz, Nat.zero_add]) (by rw [List.length_nil, Nat.zero_add]; exact hln)
    (fun j q e => by
      obtain ⟨b, e1, e2, e3⟩ := ht j q e
      have hb : b < s.heap.objs.size := e2.lt
      exact ⟨b, by rw [Nat.zero_add]; exact e1, Nat.ne_of_lt hb, Nat.ne_of_lt (Nat.lt_trans hb hS1), e2.keeps kA, is_keep e3 fun o e _ => kA _ o e⟩)
    ⟨_, Heap.get?_push_size _ rfl, rfl, rfl⟩ (hl1.at fun o e => k2 _ _ e) (dh_keep hnew (fun o e => k2 _ _ (hk1 _ _ e)) fun b o e _ => k2 _ _ (hk1 _ _ e))
    (fun h' tk hd' k => ⟨rfl, h h' tk hd' fun b o e => k b o (Nat.ne_of_lt (Heap.lt_size e)) (Nat.ne_of_lt (Nat.lt_trans (Heap.lt_size e) hS1)) (kA _ _ e)⟩)
  first
    | exact wpAny_pure ⟨plainId_quiet ud_plain _, key⟩
    | exact wpAny_bind (wpAny_pure (wpAny_pure ⟨plainId_quiet ud_plain _, key⟩))
end
section
variable {X : Cx}
def mergeT (acc kvs : List (List L2.Key × V)) : List (List L2.Key × V) := kvs.foldl (fun a q => putK a q.1 q.2) acc
theorem mergeT_len : ∀ (kvs acc : List (List L2.Key × V)), (mergeT acc kvs).length ≤ acc.length + kvs.length
  | [], acc => Nat.le_refl _
  | q :: kvs, acc => by
    show (mergeT (putK acc q.1 q.2) kvs).length ≤ _
    have h1 := mergeT_len kvs (putK acc q.1 q.2)
    have h2 := length_putK acc q.1 q.2
    rw [List.length_cons]
    omega
theorem KT.merge {H : Hp} : ∀ {kvs : List (List L2.Key × V)} {prs : List (List L2.Key × Addr × Value)} {acc : List (List L2.Key × V)} {xs : List (List L2.Key × Addr × Value)}, KT H kvs prs → KT H acc xs → KT H (mergeT acc kvs) (mergedH xs prs)
  | _, _, acc, xs, .nil, h => h
  | _, _, acc, xs, .cons (a := p) (b := q) h t, h' => by
    obtain ⟨h1, h2, h3⟩ := h
    show KT H (mergeT (putK acc p.1 p.2) _) (mergedH (storedH xs q.1 q.2.1 q.2.2) _)
    rw [← h1]
    exact KT.merge t (KT.put h' p.1 h2 h3)
theorem pairs_ofT {pins : List (Addr × Obj)} {σ : L2.St} {H : Hp} {s : Shared} (I : Inv X pins σ H s) : ∀ {ps : List Addr} {kvs : List (List L2.Key × V)}, Paired (fun p kv => ∃ kb, SqT X.K H p [.ref kb, kv.2] ∧ H kb = some (.tup (kv.1.map kV))) ps kvs →
    ∃ prs : List (List L2.Key × Addr × Value), KT H kvs prs ∧ prs.length = ps.length ∧ ∀ (j : Nat) (q : List L2.Key × Addr × Value), prs[j]? = some q → ∃ (b : Addr), ps[j]? = some b ∧ IsTup s.heap b #[.ref q.2.1, q.2.2] ∧ (tupleKind (mixKind X.prog X.w)).is s.heap q.1 q.2.1
  | _, _, .nil => ⟨[], .nil, rfl, fun j q e => by simp at e⟩
  | _, _, .cons (a := p) (b := kv) h t => by
    obtain ⟨prs, r, hl, hp⟩ := pairs_ofT I t
    obtain ⟨kb, h, hkb⟩ := h
    obtain ⟨its, rv, ht, _⟩ := I.tuple h
    obtain ⟨u, y, ei, ru, ry⟩ := vals2 rv
    subst ei
    cases (show u = Value.ref kb from ru)
    refine ⟨(kv.1, kb, y) :: prs, .cons ⟨rfl, hkb, ry⟩ r, by rw [List.length_cons, List.length_cons, hl], fun j q e => ?_⟩
    cases j with
    | zero =>
      have e' : (kv.1, kb, y) = q := Option.some.inj e
      subst e'
      exact ⟨p, rfl, ht, key_of I.hok hkb⟩
    | succ j =>
      obtain ⟨b, e1, e2, e3⟩ := hp j q (by simpa using e)
      exact ⟨b, by simpa using e1, e2, e3⟩
/-- dict(xs) of a list of pairs (tuple, value) -/
theorem call_dictT (hcalm : X.calm = true) (hu : X.A.units + 2 < cLine) : CallR X (.type "dict") (fun xs H Q => ∃ (a : Addr) (ps : List Addr) (kvs : List (List L2.Key × V)), xs = [.ref a] ∧ SqL X.K H a (ps.map V.ref) ∧ Paired (fun p kv => ∃ kb, SqT X.K H p [.ref kb, kv.2] ∧ H kb = some (.tup (kv.1.map kV))) ps kvs ∧
    ∀ p, H p = none → Q (.ref p) (upd H p (.dT (mergeT [] kvs)))) := by
  intro pins s σ H xs us Q I r q
  obtain ⟨a, ps, kvs, ex, hq, hp, q⟩ := q
  subst ex
  obtain ⟨u, eu, rx⟩ := vals1 r
  subst eu
  cases rx
  obtain ⟨its, rv, pl, hz⟩ := I.list hq
  have ei := refs_at rv
  subst ei
  rw [List.length_map] at hz
  obtain ⟨prs, rel, hl, hpr⟩ := pairs_ofT I hp
  obtain ⟨o, n, ho, hc, hd, hdat⟩ := pl
  refine call_dict_pairsH (prs := prs) hu (I.ok.hd hcalm) ho hc hd hdat (by simp [hl]) (by rw [hl]; exact hz) (fun j q' e => ?_) fun h' tk hd' k => ?_
  · obtain ⟨b, e1, e2, e3⟩ := hpr j q' e
    exact ⟨b, by simp [e1], e2, e3⟩
  · have hm : (s.heap.objs.size == sysModules) = false := beq_eq_false_iff_ne.mpr (Nat.ne_of_gt I.big)
    have hlen : (mergeT [] kvs).length ≤ sizeLine := by
      have := mergeT_len kvs []
      rw [List.length_nil, Nat.zero_add, Paired.length rel, hl] at this
      exact Nat.le_trans this hz
    have hp0 : H s.heap.objs.size = none := I.hok.fresh (Nat.le_refl _)
    obtain ⟨od, es, ep, q1, q2, q3, q4, _, q5⟩ := hd'
    refine ⟨.ref s.heap.objs.size, upd H s.heap.objs.size (.dT (mergeT [] kvs)), I.laid (t' := tk) k (Nat.le_refl _) (show ObjOk X.prog X.w _ _ _ (.dT (mergeT [] kvs)) from ⟨hlen, hm, mergedH [] prs, (KT.merge rel .nil).keeps fun b ys e => ?_, od, es, ep, q1, q2, q3, q4, q5⟩), rfl, q _ hp0⟩
    rw [upd_ne (fun z => by rw [z, hp0] at e; cases e)]
    exact e
/-- {k: v} with a tuple as the key; the new dict stands empty while the pair is made -/
theorem pe_disp1 {k v : Expr} {tk tv : TE} {pos : Pos} (hu : X.A.units + 1 < cLine) (hk : PE X k tk) (hv : PE X v tv) : PE X (.Dict [some k] [v] pos) (fun σ H Q => ∀ p, H p = none → tk σ (upd H p (.dT [])) fun x H1 => tv σ H1 fun y H2 => H2 p = some (.dT []) ∧ ∃ kb ks, x = .ref kb ∧ H2 kb = some (.tup (ks.map kV)) ∧ Q (.ref p) (upd H2 p (.dT [(ks, y)]))) := by
  refine ⟨fun pins s σ H Q I q => ?_⟩
  have hn := I.hok.fresh (Nat.le_refl s.heap.objs.size)
  have I1 := I.laid (a := s.heap.objs.size) (o := .dT []) (h' := s.heap.push { cls := .type "dict", data := .dict #[] }) (t' := s.toks) (fun _ _ q => Heap.get?_push_of_some _ q) (Nat.le_refl _) (dt_empty s.heap I.big)
  rw [arm_eval_Dict, zip_pairTrees [some k] [v] X.env pos rfl rfl, dictDisplay_pairs (pairTrees [some k] [v] X.env pos) (by intro z; cases z) (by show 1 < 17; decide)]
  refine wpAny_bind (wpAny_standAt (wpAny_bind ?_))
  unfold subDict
  refine wpAny_bind (wpAny_alloc ?_)
  refine wpAny_bind (wpAny_holding ?_)
  rw [if_pos (show (pairTrees [some k] [v] X.env pos).length ≤ 15 by show 1 ≤ 15; decide)]
  refine wpAny_bind (pairTrees_cons_walk (thn (hk.run pins _ σ _ _ I1 (q _ hn)) fun u s1 ⟨x, H1, I2, rx, q1⟩ => thn (hv.run pins s1 σ H1 _ I2 q1) fun w2 s2 ⟨y, H2, I3, ry, hd, kb, ks, ex, ek, q2⟩ => pairTrees_nil_walk ?_))
  subst ex
  cases (show u = Value.ref kb from rx)
  obtain ⟨z, hm, xs, rel, dd⟩ := dt_of I3.hok hd
  cases rel
  refine wpAny_holding ?_
  simp only [List.forIn_cons, List.forIn_nil]
  have room : (tupleKind (mixKind X.prog X.w)).room X.A := Nat.lt_of_le_of_lt (Nat.le_succ _) hu
  refine wpAny_bind (wpAny_bind (wpAny_bind (wpAny_dictSet_heap (knd := tupleKind (mixKind X.prog X.w)) (k := ks) room (key_of I3.hok ek) dd (fun h' dd' hs => ?_) (by decide))))
  refine wpAny_pure (wpAny_pure (wpAny_pure (wpAny_pure (wpAny_pure ⟨.ref s.heap.objs.size, upd H2 s.heap.objs.size (.dT [(ks, y)]), ?_, rfl, q2⟩))))
  obtain ⟨od, es, ep, q1, q2', q3, q4, _, q5⟩ := dd'
  refine d_write I3 (by rw [hd]; exact True.intro) hs ⟨_, q1⟩ (show ObjOk X.prog X.w _ _ _ (.dT [(ks, y)]) from ⟨by show 1 ≤ sizeLine; decide, hm, _, .cons ⟨rfl, ?_, ry⟩ .nil, od, es, ep, q1, q2', q3, q4, q5⟩)
  show upd H2 s.heap.objs.size (.dT [(ks, y)]) kb = _
  rw [upd_ne (fun z => by rw [z, hd] at ek; cases ek)]
  exact ek
theorem inl_dec (a b : List Int) : decide ((a.map (Sum.inl : Int → L2.Key)) = b.map Sum.inl) = decide (a = b) := by
  by_cases h : a = b
  · subst h; simp
  · rw [decide_eq_false h, decide_eq_false fun z => h (inl_inj z)]
theorem dPut_rep {CL : Nat → Addr × List Str} {K : PySem.W.Frag} {H : Hp} {S : AS} {k : List Int} {u : T} {v : V} (hu : Rep K CL H u S v) {ks : List (List Int)} {ts : List T} {kvs : List (List L2.Key × V)} (h1 : kvs.map (·.1) = ks.map (fun k => k.map Sum.inl)) (h2 : Reps K CL H ts S (kvs.map (·.2))) :
    (putK kvs (k.map Sum.inl) v).map (·.1) = (dPut ks ts k u).1.map (fun k => k.map Sum.inl) ∧ Reps K CL H (dPut ks ts k u).2 S ((putK kvs (k.map Sum.inl) v).map (·.2)) := by
  have hany : (kvs.any fun kv => decide (kv.1 = k.map Sum.inl)) = ks.any (fun j => decide (j = k)) := by
    have e1 : (kvs.any fun kv => decide (kv.1 = k.map Sum.inl)) = (kvs.map (·.1)).any fun j => decide (j = k.map Sum.inl) := by rw [List.any_map]; rfl
    rw [e1, h1, List.any_map]
    congr 1
    funext j
    exact inl_dec j k
  unfold putK dPut
  rw [hany]
  by_cases c : ks.any (fun j => decide (j = k)) = true
  · rw [if_pos c, if_pos c]
    refine ⟨?_, ?_⟩
    · rw [List.map_map, ← h1]
      apply List.map_congr_left
      intro a _
      simp only [Function.comp]
      split <;> rfl
    · show Reps K CL H (dRep ks ts k u) S _
      clear c hany
      induction kvs generalizing ks ts with
      | nil =>
        cases ks with
        | nil => cases ts with
          | nil => exact rfl
          | cons t ts => obtain ⟨_, _, e, _⟩ := h2; cases e
        | cons _ _ => cases h1
      | cons p kvs ih =>
        cases ks with
        | nil => cases h1
        | cons j ks => cases ts with
          | nil => cases h2
          | cons t ts =>
            obtain ⟨w, r, e, r1, r2⟩ := h2
            cases e
            have h1' : p.1 = j.map Sum.inl ∧ kvs.map (·.1) = ks.map (fun k => k.map Sum.inl) := by simpa using h1
            refine ⟨_, _, rfl, ?_, ih h1'.2 r2⟩
            by_cases hj : j = k
            · subst hj
              rw [if_pos rfl]
              show Rep K CL H u S (if p.1 = j.map Sum.inl then (p.1, v) else p).2
              rw [if_pos h1'.1]; exact hu
            · rw [if_neg hj]
              show Rep K CL H t S (if p.1 = k.map Sum.inl then (p.1, v) else p).2
              rw [if_neg (show ¬ p.1 = k.map Sum.inl by rw [h1'.1]; exact fun z => hj (inl_inj z))]; exact r1
  · rw [if_neg c, if_neg c]
    refine ⟨by simp [h1], ?_⟩
    rw [List.map_append]
    exact h2.append (.one hu)
theorem dRep_len : ∀ (ks : List (List Int)) (ts : List T) (k : List Int) (u : T), (dRep ks ts k u).length ≤ ts.length
  | [], _, _, _ => by simp [dRep]
  | _ :: _, [], _, _ => by simp [dRep]
  | j :: ks, t :: ts, k, u => by simp [dRep]; exact dRep_len ks ts k u
theorem dPut_len (ks : List (List Int)) (ts : List T) (k : List Int) (u : T) : (dPut ks ts k u).2.length ≤ ts.length + 1 := by
  unfold dPut
  split
  · exact Nat.le_trans (dRep_len ks ts k u) (by omega)
  · simp
section
variable {CL : Nat → Addr × List Str} {nm : Nm} {gv : Nat → Option Int} {Φ : Nat → List T → Option R} {fl : Fl} {H0 : Hp} {p pos : Pos}
open Evl (Ex Ex.refl Ex.trans Ex.new)
theorem reps_of_get {K : PySem.W.Frag} {H : Hp} {S : AS} : ∀ {ts : List T} {vs : List V}, vs.length = ts.length → (∀ (j : Nat) (t : T) (v : V), ts[j]? = some t → vs[j]? = some v → Rep K CL H t S v) → Reps K CL H ts S vs
  | [], [], _, _ => rfl
  | [], _ :: _, h, _ => by simp at h
  | _ :: _, [], h, _ => by simp at h
  | t :: ts, v :: vs, h, f => ⟨v, vs, rfl, f 0 t v rfl rfl, reps_of_get (by simpa using h) fun j t v h1 h2 => f (j + 1) t v (by simpa using h1) (by simpa using h2)⟩
theorem zipT_at : ∀ {ts us : List T} {i : Nat} {t : T}, (zipT ts us)[i]? = some t → ∃ a b, ts[i]? = some a ∧ us[i]? = some b ∧ t = .tup [a, b]
  | [], _, _, _, h => by simp [zipT] at h
  | _ :: _, [], _, _, h => by simp [zipT] at h
  | a :: ts, b :: us, 0, t, h => by simp [zipT] at h; exact ⟨a, b, rfl, rfl, h.symm⟩
  | a :: ts, b :: us, i + 1, t, h => by simpa using zipT_at (ts := ts) (us := us) (i := i) (by simpa [zipT] using h)
theorem zipT_ln : ∀ {ts us : List T}, (zipT ts us).length = min ts.length us.length
  | [], _ => by simp [zipT]
  | _ :: _, [] => by simp [zipT]
  | a :: ts, b :: us => by rw [zipT, List.length_cons, List.length_cons, List.length_cons, zipT_ln (ts := ts) (us := us)]; omega
theorem e_lzp (hT : Tb X CL nm gv Φ) {a b : E} {pa pb : Expr} {p2 p3 : Pos} (hg : Gl X "list") (hg2 : Gl X "zip") (ha : PE X pa (RE X.K CL fl H0 (ev gv Φ a) (at_ fl a))) (hb : PE X pb (RE X.K CL fl H0 (ev gv Φ b) (at_ fl b))) (hs : isStar pa = false) (hs2 : isStar pb = false) :
    PE X (.Call (.Name "list" p) [.Call (.Name "zip" p2) [pa, pb] [] p3] [] pos) (RE X.K CL fl H0 (ev gv Φ (.lzp a b)) (at_ fl (.lzp a b))) := by
  refine ⟨fun pins s σ H Q I hw => ?_⟩
  obtain ⟨env, O, t, ok, hf, q⟩ := hw
  simp only [ev] at hf
  obtain ⟨x, y, hx, hy, hz⟩ := bind2 hf
  simp only [at_] at q
  cases x with
  | lst us => cases y with
    | lst ws =>
      cases hz
      refine (pe_lzip hT.calm hg (hT.blt _ (by decide)) hg2 (hT.blt _ (by decide)) (pa_cons ha (pa_cons hb pa_nil (star_ok hs2)) (star_ok hs)) (star_ok hs) (back_ok (by simp [hs2]))).run pins s σ H Q I ⟨env, O, _, ok, hx, fun v H1 e1 r1 _ => ⟨env, O, _, ok.exd e1, hy, fun u H2 e2 r2 _ => ?_⟩⟩
      have r1' := (r1.ex e2).mono (ss_mono (join_l (at_ fl a) (at_ fl b)) (join_nl (at_ fl a) (at_ fl b)))
      have r2' := r2.mono (ss_mono (join_r (at_ fl a) (at_ fl b)) (join_nr (at_ fl a) (at_ fl b)))
      obtain ⟨b1, vs, rfl, _, h1, k1, hl⟩ := rep_lst r1'
      obtain ⟨b2, vs2, rfl, _, h2, k2, hl2⟩ := rep_lst r2'
      refine ⟨b1, b2, vs, vs2, rfl, h1, h2, fun S ps H' e3 hS hS' hlen hp => ?_⟩
      have e12 : Ex H H2 := e1.trans e2
      have l1 := k1.len
      have l2 := k2.len
      refine q _ H' (e12.trans e3) ⟨S, _, rfl, ss_new (ok.exd e12) hS, hS', by rw [zipT_ln]; omega, ?_⟩ fun _ _ => ⟨S, rfl, ex_none e12 hS⟩
      refine reps_of_get (by rw [List.length_map, hlen, zipT_ln, l1, l2]) fun j t v h3 h4 => ?_
      obtain ⟨c, d, g1, g2, rfl⟩ := zipT_at h3
      rw [List.getElem?_map] at h4
      obtain ⟨pj, h5, rfl⟩ := map1 h4
      obtain ⟨x', y', m1, m2, m3⟩ := hp j pj h5
      obtain ⟨v1, n1, n2⟩ := k1.get g1
      obtain ⟨v2, n3, n4⟩ := k2.get g2
      rw [m1] at n1
      rw [m2] at n3
      cases n1
      cases n3
      have but : ∀ {t : T} {v : V}, Rep X.K CL H2 t (SS O env σ ((at_ fl a).join (at_ fl b)).ret H0 ((at_ fl a).join (at_ fl b)).nw) v → Rep X.K CL H' t (AS.but (SS O env σ ((at_ fl a).join (at_ fl b)).ret H0 ((at_ fl a).join (at_ fl b)).nw) S) v := fun r => (r.alloc.mono fun c hc => ⟨hc.1, fun z => hc.2 (by rw [z]; exact hS)⟩).ex e3
      exact ⟨pj, _, rfl, m3, by show 2 ≤ 1000000; decide, .cons (but n2) (.one (but n4))⟩
    | _ => cases hz
  | _ => cases y <;> cases hz
theorem dspT_inv {x y t : T} (h : dspT x y = some t) : ∃ us k, x = .tup us ∧ asInts us = some k ∧ t = .dct [k] [y] := by
  cases x with
  | tup us =>
    obtain ⟨k, h1, rfl⟩ := map1 h
    exact ⟨us, k, rfl, h1, rfl⟩
  | _ => cases h
theorem e_dsp (hT : Tb X CL nm gv Φ) {a b : E} {pa pb : Expr} (ha : PE X pa (RE X.K CL fl H0 (ev gv Φ a) (at_ fl a))) (hb : PE X pb (RE X.K CL fl H0 (ev gv Φ b) (at_ fl b))) :
    PE X (.Dict [some pa] [pb] pos) (RE X.K CL fl H0 (ev gv Φ (.dsp a b)) (at_ fl (.dsp a b))) := by
  refine ⟨fun pins s σ H Q I hw => ?_⟩
  obtain ⟨env, O, t, ok, hf, q⟩ := hw
  simp only [ev] at hf
  obtain ⟨x, y, hx, hy, hz⟩ := bind2 hf
  simp only [at_] at q
  obtain ⟨us, k, rfl, hk, rfl⟩ := dspT_inv hz
  obtain ⟨M, hM⟩ := fresh_nat (at_ fl b).ret
  refine (pe_disp1 (by have := hT.room; omega) ha hb).run pins s σ H Q I fun pd hpd => ?_
  have okh := ok_hide ok (Ex.new hpd (o := .dT [])) hpd ⟨_, upd_same, rfl⟩ M
  refine ⟨env, _, _, okh, hx, fun v H1 e1 r1 _ => ⟨env, _, _, okh.exd e1, hy, fun u H2 e2 r2 _ => ?_⟩⟩
  have e0 : Ex H H2 := ((Ex.new hpd).trans e1).trans e2
  have hd : H2 pd = some (.dT []) := (e1.trans e2) pd _ upd_same
  obtain ⟨kb, rfl, hkb⟩ := rep_key (r1.ex e2) hk
  refine ⟨hd, kb, _, rfl, hkb, q _ _ (fun c o e => ?_) ⟨pd, [(k.map Sum.inl, u)], rfl, ss_new ok hpd, upd_same, by show 1 ≤ 1000000; decide, rfl, .one ?_⟩ fun _ _ => ⟨pd, rfl, hpd⟩⟩
  · rw [upd_ne (ne_of_none e hpd)]; exact e0 c o e
  · refine Rep.keep (S := AS.but (SS O env σ (at_ fl b).ret H0 (at_ fl b).nw) pd) (fun c o e hc => ?_) (fun _ z => z) (r2.mono fun c hc => ⟨⟨fun g o => hc.1 g (.inl o), hc.2⟩, fun z => hM (hc.1 M (.inr ⟨rfl, z⟩))⟩)
    have hne : c ≠ pd := by
      rcases hc with hc | hc
      · exact hc.2
      · intro z; rw [z, hd] at e; cases e; cases hc
    rw [upd_ne hne]; exact e
theorem reps2' {K : PySem.W.Frag} {H : Hp} {S : AS} {x y : T} {vs : List V} (r : Reps K CL H [x, y] S vs) : ∃ v u, vs = [v, u] ∧ Rep K CL H x S v ∧ Rep K CL H y S u := by
  obtain ⟨v, r, rfl, h1, u, r', rfl, h2, h3⟩ := r
  cases h3
  exact ⟨v, u, rfl, h1, h2⟩
/-- pairs laid into a dict -/
theorem dPairs_rep {K : PySem.W.Frag} {H : Hp} {S : AS} : ∀ {us : List T} {vs : List V} {ks ks' : List (List Int)} {ts ts' : List T} {acc : List (List L2.Key × V)}, dPairs us (ks, ts) = some (ks', ts') → Reps K CL H us S vs → acc.map (·.1) = ks.map (fun k => k.map Sum.inl) → Reps K CL H ts S (acc.map (·.2)) →
    ∃ (ps : List Addr) (kvs : List (List L2.Key × V)), vs = ps.map V.ref ∧ Paired (fun p kv => ∃ kb, SqT K H p [.ref kb, kv.2] ∧ H kb = some (.tup (kv.1.map kV))) ps kvs ∧ (mergeT acc kvs).map (·.1) = ks'.map (fun k => k.map Sum.inl) ∧ Reps K CL H ts' S ((mergeT acc kvs).map (·.2)) ∧ ts'.length ≤ ts.length + us.length
  | [], vs, ks, ks', ts, ts', acc, h, r, h1, h2 => by
    cases h
    cases r
    exact ⟨[], [], rfl, .nil, h1, h2, Nat.le_refl _⟩
  | u :: us, vs, ks, ks', ts, ts', acc, h, r, h1, h2 => by
    obtain ⟨v, vr, rfl, r1, r2⟩ := r
    match u, h, r1 with
    | .tup [.tup kt, w], h, r1 =>
      obtain ⟨k, hk, h⟩ := bind1 h
      obtain ⟨a, xs, rfl, ha, _, r3⟩ := r1
      obtain ⟨x, y, rfl, r4, r5⟩ := reps2' r3
      obtain ⟨kb, rfl, hkb⟩ := rep_key r4 hk
      obtain ⟨g1, g2⟩ := dPut_rep (k := k) r5 h1 h2
      obtain ⟨ps, kvs, rfl, m1, m2, m3, m4⟩ := dPairs_rep (us := us) h r2 g1 g2
      refine ⟨a :: ps, (k.map Sum.inl, y) :: kvs, rfl, .cons ⟨kb, .inl (.inl ha), hkb⟩ m1, m2, m3, ?_⟩
      have h9 := dPut_len ks ts k w
      have m5 : ts'.length ≤ (dPut ks ts k w).2.length + us.length := m4
      simp only [List.length_cons]
      omega
end
end
end Sb
namespace Sb
open PySem L2
open Evl (Ex Ex.refl Ex.trans Ex.new)
theorem insSort_perm (i : Int) : ∀ ns : List Int, (insSort i ns).Perm (i :: ns)
  | [] => .refl _
  | j :: r => by
    unfold insSort
    split
    · exact .refl _
    · exact ((insSort_perm i r).cons j).trans (.swap i j r)
theorem sortI_perm : ∀ ns : List Int, (sortI ns).Perm ns
  | [] => .refl _
  | i :: r => (insSort_perm i (sortI r)).trans ((sortI_perm r).cons i)
theorem insSort_pw (i : Int) : ∀ ns : List Int, ns.Pairwise (· ≤ ·) → (insSort i ns).Pairwise (· ≤ ·)
  | [], _ => by simp [insSort]
  | j :: r, h => by
    unfold insSort
    rw [List.pairwise_cons] at h
    split
    · rename_i hij
      rw [List.pairwise_cons]
      refine ⟨fun x hx => ?_, by rw [List.pairwise_cons]; exact h⟩
      rcases List.mem_cons.mp hx with e | hx
      · rw [e]; exact hij
      · exact Int.le_trans hij (h.1 x hx)
    · rename_i hij
      rw [List.pairwise_cons]
      refine ⟨fun x hx => ?_, insSort_pw i r h.2⟩
      rcases List.mem_cons.mp ((insSort_perm i r).mem_iff.mp hx) with e | hx
      · rw [e]; omega
      · exact h.1 x hx
theorem sortI_pw : ∀ ns : List Int, (sortI ns).Pairwise (· ≤ ·)
  | [] => .nil
  | i :: r => insSort_pw i _ (sortI_pw r)
theorem sortI_same {ns ns' : List Int} (h1 : ns'.Perm ns) (h2 : ns'.Pairwise (· ≤ ·)) : ns' = sortI ns := PySem.W.ksm_same (h1.trans (sortI_perm ns).symm) h2 (sortI_pw ns)
section
variable {X : Cx} {CL : Nat → Addr × List Str} {nm : Nm} {gv : Nat → Option Int} {Φ : Nat → List T → Option R} {fl : Fl} {H0 : Hp} {pos p : Pos}
/-- the shapes of a call's arguments -/
theorem bltT_one {b : Bi} {ts : List T} {t : T} (h : bltT b ts = some t) (hb : b ≠ .max) (hb' : b ≠ .min) : ∃ x, ts = [x] := by
  cases ts with
  | nil => cases b <;> cases h
  | cons x r => cases r with
    | nil => exact ⟨x, rfl⟩
    | cons y r => cases b <;> first | exact absurd rfl hb | exact absurd rfl hb' | (cases x <;> cases h)
theorem reps1 {K : PySem.W.Frag} {H : Hp} {S : AS} {x : T} {vs : List V} (r : Reps K CL H [x] S vs) : ∃ v, vs = [v] ∧ Rep K CL H x S v := by
  obtain ⟨v, r, e, h1, h2⟩ := r
  cases h2
  exact ⟨v, e, h1⟩
theorem reps2 {K : PySem.W.Frag} {H : Hp} {S : AS} {x y : T} {vs : List V} (r : Reps K CL H [x, y] S vs) : ∃ v u, vs = [v, u] ∧ Rep K CL H x S v ∧ Rep K CL H y S u := by
  obtain ⟨v, r, e, h1, h2⟩ := r
  obtain ⟨u, e2, h3⟩ := reps1 h2
  subst e2
  exact ⟨v, u, e, h1, h3⟩
/-- one built-in function, by its rule and what the rule asks -/
theorem b_go {b : Bi} {es : EL} {pe : Expr} {pes : List Expr} {pins : List (Addr × Obj)} {s : Shared} {σ : L2.St} {H : Hp} {Q : VK} {env : Env} {O : AR} {ts : List T} {id : String} {x : Str}
    (hT : Tb X CL nm gv Φ) (hg : Gl X x) (hmm : x ∈ bNames) (hv : bootBuiltins x = some (.builtin id)) (h : PA X (pe :: pes) (RA X.K CL fl H0 (evs gv Φ es) (ats fl es))) (hs : isStar pe = false) (hss : pes.all (fun e => !isStar e) = true)
    (hn : x ≠ "__name__") (hdb : (x == ("__debug__" : Str)) = false)
    (I : Inv X pins σ H s) (ok : Ok X.K CL H0 fl env σ H O) (ht : evs gv Φ es env = some ts) {r : List V → Hp → VK → Prop} (hc : CallR X (.builtin id) r)
    (k : ∀ vs H1, Ex H H1 → Reps X.K CL H1 ts (SS O env σ (ats fl es).ret H0 (ats fl es).nw) vs → r vs H1 Q) :
    wpAny (model X.prog X.w) X.A (eval (.Call (.Name x p) (pe :: pes) [] pos) X.env) (EP X pins σ Q) X.xe s :=
  (pe_callB hc hg (hT.blt x hmm) hv h hn hdb (star_ok hs) (back_ok hss)).run pins s σ H Q I ⟨env, O, ts, ok, ht, k⟩
theorem b_goT {b : Bi} {es : EL} {pe : Expr} {pes : List Expr} {pins : List (Addr × Obj)} {s : Shared} {σ : L2.St} {H : Hp} {Q : VK} {env : Env} {O : AR} {ts : List T} {id : String} {x : Str}
    (hT : Tb X CL nm gv Φ) (hg : Gl X x) (hmm : x ∈ bNames) (hv : bootBuiltins x = some (.type id)) (h : PA X (pe :: pes) (RA X.K CL fl H0 (evs gv Φ es) (ats fl es))) (hs : isStar pe = false) (hss : pes.all (fun e => !isStar e) = true)
    (hn : x ≠ "__name__") (hdb : (x == ("__debug__" : Str)) = false)
    (I : Inv X pins σ H s) (ok : Ok X.K CL H0 fl env σ H O) (ht : evs gv Φ es env = some ts) {r : List V → Hp → VK → Prop} (hc : CallR X (.type id) r)
    (k : ∀ vs H1, Ex H H1 → Reps X.K CL H1 ts (SS O env σ (ats fl es).ret H0 (ats fl es).nw) vs → r vs H1 Q) :
    wpAny (model X.prog X.w) X.A (eval (.Call (.Name x p) (pe :: pes) [] pos) X.env) (EP X pins σ Q) X.xe s :=
  (pe_callTy hc hg (hT.blt x hmm) hv h hn hdb (star_ok hs) (back_ok hss)).run pins s σ H Q I ⟨env, O, ts, ok, ht, k⟩
theorem call_lenT (hu : True) : CallR X (.builtin "len") (fun xs H Q => ∃ (x : T) (S : AS) (v : V) (n : Int), xs = [v] ∧ Rep X.K CL H x S v ∧ bltT .len [x] = some (.int n) ∧ Q (.int n) H) := by
  intro pins s σ H xs us Q I r h
  obtain ⟨x, S, v, n, rfl, hr, hb, q⟩ := h
  cases x with
  | lst ts =>
    cases hb
    obtain ⟨a, vs, rfl, _, h1, h2, _⟩ := rep_lst hr
    exact call_len_seq pins s σ H _ us Q I r ⟨a, vs, rfl, .inl h1, by rw [h2.len]; exact q⟩
  | tup ts =>
    cases hb
    obtain ⟨a, vs, rfl, h1, h2, _⟩ := rep_tup hr
    exact call_len_seq pins s σ H _ us Q I r ⟨a, vs, rfl, .inr h1, by rw [h2.len]; exact q⟩
  | scr ns =>
    cases hb
    obtain ⟨a, rfl, h1, _⟩ := rep_scr hr
    exact call_len_seq pins s σ H _ us Q I r ⟨a, _, rfl, .inl h1, by rw [List.length_map]; exact q⟩
  | dct ks ts =>
    cases hb
    obtain ⟨a, kvs, rfl, _, h1, _, h2, h3⟩ := hr
    have e : ks.length = kvs.length := by have := congrArg List.length h2; simpa using this.symm
    refine call_len_dT pins s σ H _ us Q I r ⟨a, kvs, rfl, h1, ?_⟩
    rw [← e]; exact q
  | _ => cases hb
/-- what a built-in tells of trees -/
theorem e_blt (hT : Tb X CL nm gv Φ) {b : Bi} {es : EL} {pe : Expr} {pes : List Expr} (hbl : b ≠ .lrange) (hg : Gl X b.nm) (h : PA X (pe :: pes) (RA X.K CL fl H0 (evs gv Φ es) (ats fl es))) (hs : isStar pe = false) (hss : pes.all (fun e => !isStar e) = true) :
    PE X (.Call (.Name b.nm p) (pe :: pes) [] pos) (RE X.K CL fl H0 (ev gv Φ (.blt b es)) (at_ fl (.blt b es))) := by
  refine ⟨fun pins s σ H Q I hw => ?_⟩
  obtain ⟨env, O, t, ok, hf, q⟩ := hw
  simp only [ev] at hf
  obtain ⟨ts, ht, hz⟩ := bind1 hf
  have qi : ∀ {z : T} {v : V} {H2 : Hp}, t = z → (∀ H S, Rep X.K CL H z S v) → mutR z = false → Ex H H2 → Q v H2 := fun {z v H2} e hr hm e2 => by
    subst e
    exact q _ H2 e2 (hr _ _) fun _ => fre_of hm
  cases b with
  | len =>
    obtain ⟨x, rfl⟩ := bltT_one hz (by decide) (by decide)
    have hn : ∃ n, t = .int n := by cases x <;> first | cases hz; done | exact ⟨_, (Option.some.inj hz).symm⟩
    obtain ⟨n, rfl⟩ := hn
    refine b_go (b := .len) hT hg (by decide) PySem.boot_len h hs hss (by decide) (by decide) I ok ht (call_lenT (CL := CL) trivial) fun vs H1 e1 r1 => ?_
    obtain ⟨v, rfl, r⟩ := reps1 r1
    exact ⟨x, _, v, n, rfl, r, hz, qi rfl (fun _ _ => rfl) rfl e1⟩
  | sum =>
    obtain ⟨x, rfl⟩ := bltT_one hz (by decide) (by decide)
    cases x with
    | lst us =>
      obtain ⟨ns, h1, rfl⟩ := map1 hz
      have := asInts_eq h1
      subst this
      refine b_go (b := .sum) hT hg (by decide) PyProof.Rows.boot_sum h hs hss (by decide) (by decide) I ok ht (cr_sum hT.calm) fun vs H1 e1 r1 => ?_
      obtain ⟨v, rfl, r⟩ := reps1 r1
      obtain ⟨a, vs, rfl, _, g1, g2, _⟩ := rep_lst r
      rw [g2.ints] at g1
      exact ⟨a, ns, rfl, g1, qi rfl (fun _ _ => rfl) rfl e1⟩
    | _ => cases hz
  | all =>
    obtain ⟨x, rfl⟩ := bltT_one hz (by decide) (by decide)
    cases x with
    | lst us =>
      obtain ⟨ns, h1, rfl⟩ := map1 hz
      have := asBls_eq h1
      subst this
      refine b_go (b := .all) hT hg (by decide) PyProof.Rows.boot_all h hs hss (by decide) (by decide) I ok ht (cr_all hT.calm) fun vs H1 e1 r1 => ?_
      obtain ⟨v, rfl, r⟩ := reps1 r1
      obtain ⟨a, vs, rfl, _, g1, g2, _⟩ := rep_lst r
      rw [g2.bls] at g1
      exact ⟨a, ns, rfl, g1, qi rfl (fun _ _ => rfl) rfl e1⟩
    | _ => cases hz
  | any =>
    obtain ⟨x, rfl⟩ := bltT_one hz (by decide) (by decide)
    cases x with
    | lst us =>
      obtain ⟨ns, h1, rfl⟩ := map1 hz
      have := asBls_eq h1
      subst this
      refine b_go (b := .any) hT hg (by decide) PyProof.Rows.boot_any h hs hss (by decide) (by decide) I ok ht (cr_any hT.calm) fun vs H1 e1 r1 => ?_
      obtain ⟨v, rfl, r⟩ := reps1 r1
      obtain ⟨a, vs, rfl, _, g1, g2, _⟩ := rep_lst r
      rw [g2.bls] at g1
      exact ⟨a, ns, rfl, g1, qi rfl (fun _ _ => rfl) rfl e1⟩
    | _ => cases hz
  | abs =>
    obtain ⟨x, rfl⟩ := bltT_one hz (by decide) (by decide)
    cases x with
    | int i =>
      cases hz
      refine b_go (b := .abs) hT hg (by decide) PyProof.Rows.boot_abs h hs hss (by decide) (by decide) I ok ht call_abs fun vs H1 e1 r1 => ?_
      obtain ⟨v, rfl, r⟩ := reps1 r1
      cases r
      exact ⟨i, rfl, qi rfl (fun _ _ => rfl) rfl e1⟩
    | _ => cases hz
  | max =>
    cases ts with
    | nil => cases hz
    | cons x r => cases r with
      | nil =>
        cases x with
        | lst us =>
          obtain ⟨ns, h1, hz⟩ := bind1 hz
          obtain ⟨m, hm, rfl⟩ := map1 hz
          have := asInts_eq h1
          subst this
          refine b_go (b := .max) hT hg (by decide) PyProof.Rows.boot_max h hs hss (by decide) (by decide) I ok ht (cr_max hT.calm) fun vs H1 e1 r1 => ?_
          obtain ⟨v, rfl, r⟩ := reps1 r1
          obtain ⟨a, vs, rfl, _, g1, g2, _⟩ := rep_lst r
          rw [g2.ints] at g1
          have hmm := List.max?_eq_some_iff.mp hm
          refine ⟨a, ns, rfl, g1, ?_, fun m' hm1 hm2 => ?_⟩
          · exact List.length_pos_of_mem hmm.1
          · have e : m' = m := Int.le_antisymm (hmm.2 m' hm1) (hm2 m hmm.1)
            subst e
            exact qi rfl (fun _ _ => rfl) rfl e1
        | _ => cases hz
      | cons y r => cases r with
        | nil =>
          cases x with
          | int i => cases y with
            | int j =>
              cases hz
              refine b_go (b := .max) hT hg (by decide) PyProof.Rows.boot_max h hs hss (by decide) (by decide) I ok ht (call_max2 hT.calm) fun vs H1 e1 r1 => ?_
              obtain ⟨v, u, rfl, r1, r2⟩ := reps2 r1
              cases r1; cases r2
              exact ⟨i, j, rfl, qi rfl (fun _ _ => rfl) rfl e1⟩
            | _ => cases hz
          | _ => cases hz
        | cons _ _ => cases x <;> first | cases hz; done | (cases y <;> cases hz)
  | min =>
    cases ts with
    | nil => cases hz
    | cons x r => cases r with
      | nil =>
        cases x with
        | lst us =>
          obtain ⟨ns, h1, hz⟩ := bind1 hz
          obtain ⟨m, hm, rfl⟩ := map1 hz
          have := asInts_eq h1
          subst this
          refine b_go (b := .min) hT hg (by decide) PyProof.Rows.boot_min h hs hss (by decide) (by decide) I ok ht (cr_min hT.calm) fun vs H1 e1 r1 => ?_
          obtain ⟨v, rfl, r⟩ := reps1 r1
          obtain ⟨a, vs, rfl, _, g1, g2, _⟩ := rep_lst r
          rw [g2.ints] at g1
          have hmm := List.min?_eq_some_iff.mp hm
          refine ⟨a, ns, rfl, g1, ?_, fun m' hm1 hm2 => ?_⟩
          · exact List.length_pos_of_mem hmm.1
          · have e : m' = m := Int.le_antisymm (hm2 m hmm.1) (hmm.2 m' hm1)
            subst e
            exact qi rfl (fun _ _ => rfl) rfl e1
        | _ => cases hz
      | cons y r => cases r with
        | nil =>
          cases x with
          | int i => cases y with
            | int j =>
              cases hz
              refine b_go (b := .min) hT hg (by decide) PyProof.Rows.boot_min h hs hss (by decide) (by decide) I ok ht (call_min2 hT.calm) fun vs H1 e1 r1 => ?_
              obtain ⟨v, u, rfl, r1, r2⟩ := reps2 r1
              cases r1; cases r2
              exact ⟨i, j, rfl, qi rfl (fun _ _ => rfl) rfl e1⟩
            | _ => cases hz
          | _ => cases hz
        | cons _ _ => cases x <;> first | cases hz; done | (cases y <;> cases hz)
  | int =>
    obtain ⟨x, rfl⟩ := bltT_one hz (by decide) (by decide)
    cases x with
    | int i =>
      cases hz
      refine b_goT (b := .int) hT hg (by decide) PyProof.Rows.boot_int h hs hss (by decide) (by decide) I ok ht call_int1 fun vs H1 e1 r1 => ?_
      obtain ⟨v, rfl, r⟩ := reps1 r1
      cases r
      exact .inl ⟨i, rfl, qi rfl (fun _ _ => rfl) rfl e1⟩
    | bl i =>
      cases hz
      refine b_goT (b := .int) hT hg (by decide) PyProof.Rows.boot_int h hs hss (by decide) (by decide) I ok ht call_int1 fun vs H1 e1 r1 => ?_
      obtain ⟨v, rfl, r⟩ := reps1 r1
      cases r
      exact .inr ⟨i, rfl, qi rfl (fun _ _ => rfl) rfl e1⟩
    | _ => cases hz
  | list =>
    obtain ⟨x, rfl⟩ := bltT_one hz (by decide) (by decide)
    simp only [at_] at q
    refine b_goT (b := .list) hT hg (by decide) PyProof.Rows.boot_list h hs hss (by decide) (by decide) I ok ht call_list_of fun vs H1 e1 r1 => ?_
    obtain ⟨v, rfl, r⟩ := reps1 r1
    cases x with
    | lst us =>
      cases hz
      obtain ⟨a, vs, rfl, _, g1, g2, hl⟩ := rep_lst r
      exact ⟨a, vs, rfl, .inl g1, fun l hl' => q _ _ (e1.trans (Ex.new hl')) (new_lst (ok.exd e1) hl' hl g2) fun _ _ => ⟨l, rfl, ex_none e1 hl'⟩⟩
    | tup us =>
      cases hz
      obtain ⟨a, vs, rfl, g1, g2, hl, _⟩ := rep_tup r
      exact ⟨a, vs, rfl, .inr g1, fun l hl' => q _ _ (e1.trans (Ex.new hl')) (new_lst (ok.exd e1) hl' hl g2) fun _ _ => ⟨l, rfl, ex_none e1 hl'⟩⟩
    | scr ns =>
      cases hz
      obtain ⟨a, rfl, g1, hl⟩ := rep_scr r
      exact ⟨a, _, rfl, .inl g1, fun l hl' => q _ _ (e1.trans (Ex.new hl')) (new_lst (ok.exd e1) hl' (by rw [List.length_map]; exact hl) Reps.of_ints) fun _ _ => ⟨l, rfl, ex_none e1 hl'⟩⟩
    | _ => cases hz
  | tuple =>
    obtain ⟨x, rfl⟩ := bltT_one hz (by decide) (by decide)
    simp only [at_] at q
    refine b_goT (b := .tuple) hT hg (by decide) PyProof.Rows.boot_tuple h hs hss (by decide) (by decide) I ok ht call_tuple_of fun vs H1 e1 r1 => ?_
    obtain ⟨v, rfl, r⟩ := reps1 r1
    cases x with
    | lst us =>
      cases hz
      obtain ⟨a, vs, rfl, _, g1, g2, hl⟩ := rep_lst r
      exact ⟨a, vs, rfl, .inl ⟨g1, fun l hl' => q _ _ (e1.trans (Ex.new hl')) (new_tup hl' hl g2) fun _ => fre_of rfl⟩⟩
    | tup us =>
      cases hz
      obtain ⟨a, vs, rfl, g1, g2, hl, _⟩ := rep_tup r
      exact ⟨a, vs, rfl, .inr ⟨g1, q _ _ e1 r fun _ => fre_of rfl⟩⟩
    | _ => cases hz
  | sorted =>
    obtain ⟨x, rfl⟩ := bltT_one hz (by decide) (by decide)
    cases x with
    | lst us =>
      obtain ⟨ns, h1, rfl⟩ := map1 hz
      have := asInts_eq h1
      subst this
      refine b_go (b := .sorted) hT hg (by decide) PyProof.Rows.boot_sorted h hs hss (by decide) (by decide) I ok ht cr_sortedI fun vs H1 e1 r1 => ?_
      obtain ⟨v, rfl, r⟩ := reps1 r1
      obtain ⟨a, vs, rfl, _, g1, g2, hl⟩ := rep_lst r
      rw [g2.ints] at g1
      refine ⟨a, ns, rfl, g1, fun ns' l p1 p2 hl' => ?_⟩
      rw [sortI_same p1 p2]
      refine q _ _ (e1.trans (Ex.new hl')) (new_lst (ok.exd e1) hl' ?_ Reps.of_ints) fun _ _ => ⟨l, rfl, ex_none e1 hl'⟩
      rw [List.length_map, (sortI_perm ns).length_eq]
      rw [List.length_map] at hl
      exact hl
    | _ => cases hz
  | lrange => exact absurd rfl hbl
  | dict =>
    obtain ⟨x, rfl⟩ := bltT_one hz (by decide) (by decide)
    simp only [at_] at q
    cases x with
    | lst us =>
      obtain ⟨⟨ks', ts'⟩, hd, rfl⟩ := map1 hz
      refine b_goT (b := .dict) hT hg (by decide) PyProof.Rows.boot_dict h hs hss (by decide) (by decide) I ok ht (call_dictT hT.calm (by have := hT.room; omega)) fun vs H1 e1 r1 => ?_
      obtain ⟨v, rfl, r⟩ := reps1 r1
      obtain ⟨a, vs, rfl, _, g1, g2, hl⟩ := rep_lst r
      obtain ⟨ps, kvs, rfl, m1, m2, m3, m4⟩ := dPairs_rep (acc := []) hd g2 rfl rfl
      refine ⟨a, ps, kvs, rfl, g1, m1, fun l hl' => q _ _ (e1.trans (Ex.new hl')) ⟨l, _, rfl, ss_new (ok.exd e1) hl', upd_same, by show ts'.length ≤ LIM; simp at m4; omega, m2, ?_⟩ fun _ _ => ⟨l, rfl, ex_none e1 hl'⟩⟩
      exact (m3.alloc.mono (S' := AS.but _ l) fun b q => ⟨q.1, fun z => q.2 (by rw [z]; exact hl')⟩).ex (Ex.new hl')
    | _ => cases hz
theorem rg0 (n : Int) : rgV 0 n = ((List.range n.toNat).map fun (i : Nat) => (i : Int)).map V.int := by
  unfold rgV
  rw [List.map_map, Int.sub_zero]
  apply List.map_congr_left
  intro i _
  show V.int (0 + (i : Int)) = V.int (i : Int)
  rw [Int.zero_add]
theorem e_lrange (hT : Tb X CL nm gv Φ) {e : E} {pe : Expr} {p2 p3 : Pos} (hg : Gl X "list") (hg2 : Gl X "range") (h : PE X pe (RE X.K CL fl H0 (ev gv Φ e) (at_ fl e))) (hs : isStar pe = false) :
    PE X (.Call (.Name "list" p) [.Call (.Name "range" p2) [pe] [] p3] [] pos) (RE X.K CL fl H0 (ev gv Φ (.lrg e)) (at_ fl (.lrg e))) := by
  refine ⟨fun pins s σ H Q I hw => ?_⟩
  obtain ⟨env, O, t, ok, hf, q⟩ := hw
  simp only [ev] at hf
  obtain ⟨x, hx, hz⟩ := bind1 hf
  cases x with
  | int n =>
    obtain ⟨hn, rfl⟩ := ite1 hz
    have hL : (LIM : Nat) = 1000000 := rfl
    rw [hL] at hn
    obtain ⟨h0, hn⟩ := hn
    refine (pe_listRg hT.calm hg (hT.blt _ (by decide)) (prg_1 hg2 (hT.blt _ (by decide)) h (star_ok hs)) rfl).run pins s σ H Q I ⟨env, O, _, ok, hx, fun v H1 e1 r1 _ => ⟨n, r1, ?_, fun l hl => ?_⟩⟩
    · exact RgOk.of_le (by omega) (by omega) (by omega) h0
    · rw [rg0]
      have e2 : (List.map (fun (i : Nat) => T.int (i : Int)) (List.range n.toNat)) = ((List.range n.toNat).map fun (i : Nat) => (i : Int)).map T.int := by
        rw [List.map_map]; rfl
      refine q _ _ (e1.trans (Ex.new hl)) ?_ fun _ _ => ⟨l, rfl, ex_none e1 hl⟩
      rw [e2]
      exact new_lst (ok.exd e1) hl (by rw [List.length_map, List.length_map, List.length_range, hL]; omega) Reps.of_ints
  | _ => cases hz
def tyN : T → String
  | .non => "NoneType" | .bl _ => "bool" | .int _ => "int" | .str _ => "str" | .tup _ => "tuple" | _ => "list"
theorem isi_ty {K : PySem.W.Frag} {H : Hp} {x : T} {S : AS} {v : V} (r : Rep K CL H x S v) (h1 : ∀ ks ts, x ≠ .dct ks ts) (h2 : ∀ ks ts, x ≠ .obj ks ts) (h3 : x ≠ .unk) (h4 : ∀ ks ts, x ≠ .fdc ks ts) :
    TyX K H v (.type (tyN x)) := by
  cases x with
  | non => cases r; exact .base .non
  | bl b => cases r; exact .base (.bl b)
  | int b => cases r; exact .base (.int b)
  | str b => cases r; exact .base (.str b)
  | tup ts => obtain ⟨a, vs, rfl, _, _, _, h⟩ := rep_tup r; exact .base (.tup h)
  | lst ts => obtain ⟨a, vs, rfl, h, _⟩ := rep_lst r; exact .base (.lst h)
  | scr ns =>
    obtain ⟨a, rfl, h, _⟩ := r
    rcases h with ⟨o, h⟩ | ⟨o, its, n, h, hc, _⟩
    · exact .base (.frz h)
    · exact .kList h hc
  | dct ks ts => exact absurd rfl (h1 ks ts)
  | obj ks ts => exact absurd rfl (h2 ks ts)
  | unk => exact absurd rfl h3
  | fdc ks ts => exact absurd rfl (h4 ks ts)
def Kd.ty : Kd → String
  | .int => "int" | .bool => "bool" | .tuple => "tuple" | .list => "list" | .str => "str" | .cls _ _ _ => ""
theorem kd_boot {k : Kd} (h : k.nm ≠ "") : bootBuiltins k.nm = some (.type k.ty) := by
  cases k with
  | int => exact PyProof.Rows.boot_int
  | bool => exact PyProof.Rows.boot_bool
  | tuple => exact PyProof.Rows.boot_tuple
  | list => exact PyProof.Rows.boot_list
  | str => exact PyProof.Rows.boot_str
  | cls c l l2 => exact absurd rfl h
theorem kd_in {k : Kd} (h : k.nm ≠ "") : k.nm ∈ bNames := by
  cases k with
  | cls c l l2 => exact absurd rfl h
  | _ => decide
theorem e_isi (hT : Tb X CL nm gv Φ) {a : E} {k : Kd} {pa : Expr} {p2 : Pos} (hg : Gl X "isinstance") (hg2 : Gl X k.nm) (hk : k.nm ≠ "") (hd2 : (k.nm == ("__debug__" : Str)) = false) (hn2 : k.nm ≠ "__name__") (h : PE X pa (RE X.K CL fl H0 (ev gv Φ a) (at_ fl a))) (hs : isStar pa = false) :
    PE X (.Call (.Name "isinstance" p) [pa, .Name k.nm p2] [] pos) (RE X.K CL fl H0 (ev gv Φ (.isi a k)) (at_ fl (.isi a k))) := by
  refine ⟨fun pins s σ H Q I hw => ?_⟩
  obtain ⟨env, O, t, ok, hf, q⟩ := hw
  simp only [ev] at hf
  obtain ⟨x, hx, hz⟩ := bind1 hf
  obtain ⟨b, hb, rfl⟩ := map1 hz
  have hc : PE X (.Name k.nm p2) (tC (.ty k.ty)) := pe_bltn hg2 (hT.blt _ (kd_in hk)) (kd_boot hk) rfl hn2 hd2
  refine (pe_callB call_isi hg (hT.blt _ (by decide)) PyProof.Rows.boot_isinstance (pa_cons h (pa_cons hc pa_nil rfl) (star_ok hs)) (by decide) (by decide) (star_ok hs) rfl).run pins s σ H Q I ⟨env, O, x, ok, hx, fun v H1 e1 r1 _ => ?_⟩
  have hd : (∀ ks ts, x ≠ .dct ks ts) ∧ (∀ ks ts, x ≠ .obj ks ts) ∧ x ≠ .unk ∧ ∀ ks ts, x ≠ .fdc ks ts := by
    refine ⟨?_, ?_, ?_, ?_⟩
    · intro ks ts z; subst z; cases k <;> first | exact absurd rfl hk | cases hb
    · intro ks ts z; subst z; cases k <;> first | exact absurd rfl hk | cases hb
    · intro z; subst z; cases k <;> first | exact absurd rfl hk | cases hb
    · intro ks ts z; subst z; cases k <;> first | exact absurd rfl hk | cases hb
  have ty := isi_ty r1 hd.1 hd.2.1 hd.2.2.1 hd.2.2.2
  refine ⟨v, .ty k.ty, .type (tyN x), .type k.ty, b, rfl, .ty _, ty, kit_ty ?_, q _ H1 e1 rfl fun _ => fre_of rfl⟩
  cases k <;> first | exact absurd rfl hk | (cases x <;> first | exact absurd rfl (hd.1 _ _) | exact absurd rfl (hd.2.1 _ _) | exact absurd rfl hd.2.2.1 | exact absurd rfl (hd.2.2.2 _ _) | (cases hb; simp only [tyN, Kd.ty]; decide +kernel))
theorem e_isc (hT : Tb X CL nm gv Φ) {a : E} {c : Nat} {acc rej : List Nat} {pa : Expr} {p2 : Pos} {y : Str} (hg : Gl X "isinstance") (hy : nm.cl c = y) (hg2 : Gl X y) (hd2 : (y == ("__debug__" : Str)) = false)
    (hacc : ∀ d, acc.contains d = true → nm.kin c d = some true) (hrej : ∀ d, rej.contains d = true → nm.kin c d = some false) (h : PE X pa (RE X.K CL fl H0 (ev gv Φ a) (at_ fl a))) (hs : isStar pa = false) :
    PE X (.Call (.Name "isinstance" p) [pa, .Name y p2] [] pos) (RE X.K CL fl H0 (ev gv Φ (.isi a (.cls c acc rej))) (at_ fl (.isi a (.cls c acc rej)))) := by
  refine ⟨fun pins s σ H Q I hw => ?_⟩
  obtain ⟨env, O, t, ok, hf, q⟩ := hw
  simp only [ev] at hf
  obtain ⟨x, hx, hz⟩ := bind1 hf
  obtain ⟨b, hb, rfl⟩ := map1 hz
  cases x with
  | obj d us =>
    have hk : nm.kin c d = some b := by
      simp only [isiT] at hb
      split at hb
      · cases hb; exact hacc d (by assumption)
      · split at hb
        · cases hb; exact hrej d (by assumption)
        · cases hb
    obtain ⟨k1, k2, k3⟩ := hT.kin c d b hk
    rw [hy] at k2
    have hc : PE X (.Name y p2) (tC (.ref (CL c).1)) := pe_glob hg2 k2 rfl hd2
    refine (pe_callB call_isi hg (hT.blt _ (by decide)) PyProof.Rows.boot_isinstance (pa_cons h (pa_cons hc pa_nil rfl) (star_ok hs)) (by decide) (by decide) (star_ok hs) rfl).run pins s σ H Q I ⟨env, O, _, ok, hx, fun v H1 e1 r1 _ => ?_⟩
    obtain ⟨a', dx, fs, rfl, _, h3, _⟩ := r1
    exact ⟨_, .ref (CL c).1, .ref (CL d).1, .ref (CL c).1, b, rfl, .own _, .base (.ins h3 k1.cl k1.ha k1.hn k1.htk k1.hm), k3, q _ H1 e1 rfl fun _ => fre_of rfl⟩
  | _ => cases hb
theorem e_dnew : PE X (.Dict [] [] pos) (RE X.K CL fl H0 (ev gv Φ .dnew) (at_ fl .dnew)) := by
  refine ⟨fun pins s σ H Q I hw => ?_⟩
  obtain ⟨env, O, t, ok, hf, q⟩ := hw
  simp only [ev] at hf
  cases hf
  refine pe_dnewT.run pins s σ H Q I fun p hp => q _ _ (Ex.new hp) ⟨p, [], rfl, ss_new ok hp, upd_same, Nat.zero_le _, rfl, rfl⟩ fun _ _ => ⟨p, rfl, hp⟩
theorem findIdx_toDs (y : T) : ∀ (ts : List T) (j : Nat), ts.findIdx? (fun z => teq z y) = some j → (∃ z, (toDs ts)[j]? = some z ∧ PyData.eqv z (toD y) = true) ∧ ∀ m z', m < j → (toDs ts)[m]? = some z' → PyData.eqv z' (toD y) = false
  | [], j, h => by cases h
  | t :: ts, j, h => by
    rw [List.findIdx?_cons] at h
    split at h
    · rename_i ht
      cases h
      exact ⟨⟨toD t, rfl, ht⟩, fun m z' hm => absurd hm (Nat.not_lt_zero _)⟩
    · rename_i ht
      obtain ⟨j', h1, rfl⟩ := map1 h
      obtain ⟨⟨z, g1, g2⟩, g3⟩ := findIdx_toDs y ts j' h1
      refine ⟨⟨z, g1, g2⟩, fun m z' hm hz => ?_⟩
      cases m with
      | zero =>
        have e : some (toD t) = some z' := hz
        cases e
        exact Bool.eq_false_iff.mpr ht
      | succ m => exact g3 m z' (by omega) hz
theorem few1' {env : PySem.Env} {cpos : Pos} {pe : Expr} (hs : isStar pe = false) : ((backTo cpos (starEach [pe] env)).all (fun x => !x.1) && (backToKw cpos (keywordEach [] env)).all (fun x => x.1.isSome)
      && decide (([pe] : List Expr).length + ([] : List Keyword).length + (if ([] : List Keyword).isEmpty then 0 else 1) < 30)) = true := by
  rw [star_ok hs]; rfl
theorem e_idx (hT : Tb X CL nm gv Φ) {a b : E} {pa pb : Expr} {ap : Pos} (ha : PE X pa (RE X.K CL fl H0 (ev gv Φ a) (at_ fl a))) (hb : PE X pb (RE X.K CL fl H0 (ev gv Φ b) (at_ fl b))) (hs : isStar pb = false) (hl : (ap.endLine == pos.line) = true) (hba : baseB pa = true) :
    PE X (.Call (.Attribute pa "index" ap) [pb] [] pos) (RE X.K CL fl H0 (ev gv Φ (.idx a b)) (at_ fl (.idx a b))) := by
  refine ⟨fun pins s σ H Q I hw => ?_⟩
  obtain ⟨env, O, t, ok, hf, q⟩ := hw
  simp only [ev] at hf
  obtain ⟨x, y, hx, hy, hz⟩ := bind2 hf
  cases x with
  | lst ts =>
    have hz' : (if (dat 60 y && dats 60 ts) = true then (ts.findIdx? fun z => teq z y).map fun (j : Nat) => T.int (j : Int) else none) = some t := hz
    by_cases hc : (dat 60 y && dats 60 ts) = true
    · rw [if_pos hc] at hz'
      rw [Bool.and_eq_true] at hc
      obtain ⟨j, hj, rfl⟩ := map1 hz'
      obtain ⟨⟨z, g1, g2⟩, g3⟩ := findIdx_toDs y ts j hj
      refine (pe_bm PySem.F.plainAttrs_list PySem.F.slot_list_index PySem.F.type_list_index (mt_indexD hT.room) ha (pa_cons hb pa_nil (star_ok hs)) (base_ok hba) (few1' hs) hl (star_ok hs) rfl).run pins s σ H Q I ⟨env, O, _, ok, hx, fun v H1 e1 r1 _ => ?_⟩
      obtain ⟨p, vs, rfl, h1, h1', h2, _⟩ := rep_lst r1
      refine ⟨.inl ⟨rfl, vs, .of h1⟩, env, O, _, ok.exd e1, hy, fun u H2 e2 r2 _ => ?_⟩
      obtain ⟨p2, vs2, e3, g4, g4', g5, _⟩ := rep_lst (r1.ex e2)
      cases e3
      exact ⟨p, u, toD y, toDs ts, j, z, rfl, rfl, .lst g4' (reps_dp hc.2 g5), rep_dp hc.1 r2, dats_shaped hc.2, dat_shaped hc.1, g1, g2, g3, q _ H2 (e1.trans e2) rfl fun _ => fre_of rfl⟩
    · rw [if_neg hc] at hz'; cases hz'
  | _ => cases hz
theorem e_cnt (hT : Tb X CL nm gv Φ) {a b : E} {pa pb : Expr} {ap : Pos} (ha : PE X pa (RE X.K CL fl H0 (ev gv Φ a) (at_ fl a))) (hb : PE X pb (RE X.K CL fl H0 (ev gv Φ b) (at_ fl b))) (hs : isStar pb = false) (hl : (ap.endLine == pos.line) = true) (hba : baseB pa = true) :
    PE X (.Call (.Attribute pa "count" ap) [pb] [] pos) (RE X.K CL fl H0 (ev gv Φ (.cnt a b)) (at_ fl (.cnt a b))) := by
  refine ⟨fun pins s σ H Q I hw => ?_⟩
  obtain ⟨env, O, t, ok, hf, q⟩ := hw
  simp only [ev] at hf
  obtain ⟨x, y, hx, hy, hz⟩ := bind2 hf
  cases x with
  | lst ts => cases y with
    | int i =>
      obtain ⟨ns, h0, rfl⟩ := map1 (f := fun ns : List Int => T.int ((ns.count i : Nat) : Int)) hz
      have := asInts_eq h0
      subst this
      refine (pe_bm PySem.F.plainAttrs_list PySem.F.slot_list_count PySem.F.type_list_count mt_lcount ha (pa_cons hb pa_nil (star_ok hs)) (base_ok hba) (few1' hs) hl (star_ok hs) rfl).run pins s σ H Q I ⟨env, O, _, ok, hx, fun v H1 e1 r1 _ => ?_⟩
      obtain ⟨p, vs, rfl, h1, h1', h2, _⟩ := rep_lst r1
      refine ⟨.inl ⟨rfl, vs, .of h1⟩, env, O, _, ok.exd e1, hy, fun u H2 e2 r2 _ => ?_⟩
      obtain ⟨p2, vs2, e3, g4, g4', g5, _⟩ := rep_lst (r1.ex e2)
      cases e3
      have r2' : u = .int i := r2
      subst r2'
      rw [g5.ints] at g4'
      exact ⟨p, ns, i, rfl, rfl, g4', q _ H2 (e1.trans e2) rfl fun _ => fre_of rfl⟩
    | _ => cases hz
  | _ => cases hz
theorem e_fld (hT : Tb X CL nm gv Φ) {a : E} {c : Nat} {pa : Expr} {f : Str} (ha : PE X pa (RE X.K CL fl H0 (ev gv Φ a) (at_ fl a))) (hf0 : nm.fl c = f) (hne : f ≠ "") (hba : baseB pa = true) :
    PE X (.Attribute pa f pos) (RE X.K CL fl H0 (ev gv Φ (.fld a c)) (at_ fl (.fld a c))) := by
  refine ⟨fun pins s σ H Q I hw => ?_⟩
  obtain ⟨env, O, t, ok, hf, q⟩ := hw
  simp only [ev] at hf
  obtain ⟨x, hx, hz⟩ := bind1 hf
  match x, hz with
  | .obj d [u], hz =>
    have hz' : (if d = c then some u else none) = some t := hz
    obtain ⟨rfl, rfl⟩ := ite1 hz'
    subst hf0
    obtain ⟨k1, k2, k3⟩ := hT.fld d hne
    refine (pe_fld ha (base_ok hba)).run pins s σ H Q I ⟨env, O, _, ok, hx, fun v H1 e1 r1 _ => ?_⟩
    obtain ⟨a', dx, fs, rfl, _, h3, h4, h5⟩ := r1
    rw [k3] at h4
    match fs, h4, h5, h3 with
    | [(g, w)], h4, h5, h3 =>
      have hg : g = nm.fl d := by simpa using h4
      subst hg
      obtain ⟨v', r', e2, r2, _⟩ := h5
      have e3 : w = v' := by injection e2
      subst e3
      refine ⟨a', _, dx, _, w, rfl, h3, k1, k2, by simp [List.lookup], q w H1 e1 (r2.mono fun b hb => hb.1) fun z => by cases z⟩
theorem look_none {x : Str} : ∀ {l : List (Str × V)}, x ∉ l.map (·.1) → l.lookup x = none
  | [], _ => rfl
  | z :: l, h => by
    rw [List.map_cons, List.mem_cons, not_or] at h
    have : (x == z.1) = false := beq_eq_false_iff_ne.mpr h.1
    rw [List.lookup_cons, this]
    exact look_none h.2
theorem mform : ∀ {pes : List Expr} {env : PySem.Env} {pos : Pos}, pes.all (fun e => !isStar e) = true → (backTo pos (starEach pes env)).all (fun x => !x.1) = true
  | [], _, _, _ => rfl
  | e :: es, env, pos, h => by
    simp only [List.all_cons, Bool.and_eq_true, Bool.not_eq_true'] at h
    rw [star_ok h.1]
    have := mform (env := env) (pos := pos) h.2
    unfold backTo at this ⊢
    simpa using this
def plO (o : Expr) (env : PySem.Env) : Sem Bool := do return (← importBound o env).getD true
theorem mcall_go {o : Expr} {m : Str} {apos pos : Pos} {env : PySem.Env} {ov : Value} {n : Nat} {args : List (Bool × Sem Value)} {kws : List (Option Str × Sem Value)} (hf : methodCallForm n args kws = true) (hl : (apos.endLine == pos.line) = true) :
    methodCall o m apos pos env ov n args kws = (do
      let (f, first) ← holding [ov] (getMethod ov m (plO o env))
      callWith pos f first args kws) := by
  unfold methodCall calleeOf methodCallPos plO
  simp only [hf, hl, Bool.not_true, Bool.or_true, if_true, pure_bind]
theorem e_shw (hT : Tb X CL nm gv Φ) {a : E} {es : EL} {pa pe : Expr} {pes : List Expr} {ap : Pos} (ha : PE X pa (RE X.K CL fl H0 (ev gv Φ a) (at_ fl a))) (hba : baseB pa = true) (h : PA X (pe :: pes) (RA X.K CL fl H0 (evs gv Φ es) (ats fl es)))
    (hs : isStar pe = false) (hss : pes.all (fun e => !isStar e) = true) (hl : (ap.endLine == pos.line) = true) (hn : (pe :: pes).length < 20) : PE X (.Call (.Attribute pa "shows" ap) (pe :: pes) [] pos) (RE X.K CL fl H0 (ev gv Φ (.shw a es)) (at_ fl (.shw a es))) := by
  refine ⟨fun pins s σ H Q I hw => ?_⟩
  obtain ⟨env, O, t, ok, hf, q⟩ := hw
  simp only [ev] at hf
  obtain ⟨x, ts, hx, ht, hz⟩ := bind2 hf
  cases x with
  | obj c us =>
    obtain ⟨r, hz, hr'⟩ := bind1 hz
    cases r with
    | exc c => cases hr'
    | wkv c => cases hr'
    | val t' =>
      cases hr'
      obtain ⟨k, f, fd, ps, k1, k2, k3, hb, hr, F⟩ := hT.mt c us ts _ hz
      have hfm : methodCallForm ((pe :: pes).length + ([] : List Keyword).length) (backTo pos (starEach (pe :: pes) X.env)) (backToKw pos (keywordEach [] X.env)) = true := by
        unfold methodCallForm
        rw [mform (by simp [hs, hss])]
        have : (pe :: pes).length + ([] : List Keyword).length + (if (backToKw pos (keywordEach [] X.env)).isEmpty = true then 0 else 1) < 30 := by
          show (pe :: pes).length + 0 + 0 < 30
          omega
        rw [decide_eq_true this]; rfl
      have hcl : eval (.Call (.Attribute pa "shows" ap) (pe :: pes) [] pos) X.env = (do
          let ov ← eval pa X.env
          standAt ap.atName
          let (f, first) ← holding [ov] (getMethod ov "shows" (plO pa X.env))
          callWith pos f first (backTo pos (starEach (pe :: pes) X.env)) (backToKw pos (keywordEach [] X.env))) := by
        rw [PySem.arm_eval_Call, base_ok hba]
        simp only [mcall_go hfm hl]
      refine (pe_meth (CX := L2.CX X.prog X.w) (dvs := []) ha k1 k2 F hr hb .nil passL h (star_ok hs) (back_ok hss) hcl).run pins s σ H Q I ⟨env, O, _, ok, hx, fun v H1 e1 r1 _ => ?_⟩
      obtain ⟨a', dx, fs, rfl, g2, g3, g4, g5⟩ := r1
      refine ⟨a', dx, fs, rfl, g3, ?_, env, O, ts, ok.exd e1, ht, fun vs H2 e2 r2 => ?_⟩
      · exact look_none (by rw [g4]; exact k3)
      · show spF X.K CL (Φ (20000 + c)) (.ref a' :: (vs ++ [])) H2 Q E0
        rw [List.append_nil]
        refine ⟨.obj c us :: ts, _, ⟨_, _, rfl, ?_, r2.top⟩, hz, fun t'' et v H' e' r' => ?_, (fun c z => nomatch z), (fun c z => nomatch z)⟩
        · exact ⟨a', dx, fs, rfl, trivial, e2 _ _ g3, g4, (g5.mono fun b hb => ⟨trivial, hb.2⟩).ex e2⟩
        · cases et
          obtain ⟨g1, g2⟩ := fresh_ss (ret := []) (nw := true) (ok.exd (e1.trans e2)) (e1.trans e2) r'
          exact q v H' ((e1.trans e2).trans e') g1 fun _ => g2
  | _ => cases hz
theorem run_mk0 {C : Addr} {pins : List (Addr × Obj)} {σ : L2.St} {H : Hp} {s : Shared} {Q : VK} (M : Mk0 X.K C) (I : Inv X pins σ H s)
    (h : ∀ x dx, H x = none → H dx = none → dx ≠ x → Q (.ref x) (upd (upd H dx (.own x)) x (.ins C dx []))) :
    wpAny (model X.prog X.w) X.A (PySem.call (.ref C) []) (EP X pins σ Q) X.xe s := by
  have hq := h (s.heap.objs.size + 1) s.heap.objs.size (I.hok.fresh (Nat.le_succ _)) (I.hok.fresh (Nat.le_refl _)) (Nat.ne_of_lt (Nat.lt_succ_self _))
  have I2 := Inv.made (C := C) I
  have Y := PySem.W.makes_of (M := model X.prog X.w) I.kIn M.makes
  refine wpAny_call (make_map0 I.kIn M.makes M.init (fun self => PySem.W.Looks.of_pure (PySem.W.oi_bind self)) ?_)
  have e2 : ((s.heap.push PySem.W.emptyDict).push (PySem.W.instObj C s.heap.objs.size)).get? (s.heap.objs.size + 1) = some (PySem.W.instObj C s.heap.objs.size) := by
    have := Heap.get?_push_size (s.heap.push PySem.W.emptyDict) (o := PySem.W.instObj C s.heap.objs.size) rfl
    rwa [Heap.size_push] at this
  have t1 : PySem.W.Looks (model X.prog X.w) ((s.heap.push PySem.W.emptyDict).push (PySem.W.instObj C s.heap.objs.size)) (typeOf (.ref (s.heap.objs.size + 1))) (.ref C) := (PySem.W.Looks.ld e2).andThen .now
  have t2 : PySem.W.Looks (model X.prog X.w) ((s.heap.push PySem.W.emptyDict).push (PySem.W.instObj C s.heap.objs.size)) (isInstance (.ref (s.heap.objs.size + 1)) (.type "object")) true :=
    t1.andThen (Y.top.keeps fun b o e => Heap.get?_push_of_some _ (Heap.get?_push_of_some _ e))
  refine PySem.codeAny_call_builtin PySem.W.oi_plain PySem.W.entry_oi (@PySem.W.check_slot (model X.prog X.w) _ _ _ "object.__init__" "object" "__init__" (.ref (s.heap.objs.size + 1)) [] [] _ PySem.W.oi_kind PySem.W.oi_split t2 (PySem.W.oi_args (.ref (s.heap.objs.size + 1))) ?_)
  rw [PySem.W.oi_run]
  exact wpAny_pure (And.intro rfl ⟨V.ref (s.heap.objs.size + 1), _, I2, rfl, hq⟩)
theorem obj_new {K : PySem.W.Frag} {H H2 : Hp} {env : Env} {σ : L2.St} {O : AR} {x : Addr} {ts : List T} {c : Nat} {dx : Addr} {fs : List (Str × V)} {ret : List Nat} {nw : Bool} (ok : Ok K CL H0 fl env σ H O) (hx : H x = none) (h1 : H2 x = some (.ins (CL c).1 dx fs)) (h2 : fs.map (·.1) = (CL c).2)
    (h3 : Reps K CL H2 ts (fun a => H a = none ∧ a ≠ x) (fs.map (·.2))) : Rep K CL H2 (.obj c ts) (SS O env σ ret H0 nw) (.ref x) :=
  ⟨x, dx, fs, rfl, ss_new ok hx, h1, h2, h3.mono fun b hb => ⟨ss_new ok hb.1, hb.2⟩⟩
theorem upd2_ex {H : Hp} {x dx : Addr} {o o' : HO} (h1 : H x = none) (h2 : H dx = none) : Ex H (upd (upd H dx o) x o') := fun a q h => by
  have n1 : a ≠ x := fun z => by rw [z, h1] at h; cases h
  have n2 : a ≠ dx := fun z => by rw [z, h2] at h; cases h
  rw [upd_ne n1, upd_ne n2]; exact h
theorem e_mk0 (hT : Tb X CL nm gv Φ) {c : Nat} {x : Str} (h100 : c < 100) (hx : nm.cl c = x) (hg : Gl X x) (hd : (x == ("__debug__" : Str)) = false) :
    PE X (.Call (.Name x p) [] [] pos) (RE X.K CL fl H0 (ev gv Φ (.mk c .nil)) (at_ fl (.mk c .nil))) := by
  refine ⟨fun pins s σ H Q I hw => ?_⟩
  obtain ⟨env, O, t, ok, hf, q⟩ := hw
  simp only [ev, evs, Option.bind_some] at hf
  obtain ⟨r, hz, hr'⟩ := bind1 hf
  obtain ⟨k1, k2⟩ := hT.mkc c [] r h100 hz
  rcases k2 with ⟨_, _, _, _, _, _, _, _, _, _, z, _⟩ | ⟨_, rfl, M, k3⟩
  · exact absurd rfl z
  · cases hr'
    rw [hx] at k1
    refine wpAny_Call_Name_kw (ld_glob I hg k1 ?_ hd)
    refine PySem.W.callWith_K0 I.kIn M.kp (run_mk0 M I fun a dx h1 h2 hn => ?_)
    exact q _ _ (upd2_ex h1 h2) (obj_new ok h1 upd_same (by rw [k3]; rfl) rfl) fun _ _ => ⟨a, rfl, h1⟩
theorem e_mk (hT : Tb X CL nm gv Φ) {c : Nat} {es : EL} {x : Str} {pe : Expr} {pes : List Expr} (h100 : c < 100) (hx : nm.cl c = x) (hg : Gl X x) (hd : (x == ("__debug__" : Str)) = false) (h : PA X (pe :: pes) (RA X.K CL fl H0 (evs gv Φ es) (ats fl es)))
    (hne : ∀ env ts, evs gv Φ es env = some ts → ts ≠ []) (hs : isStar pe = false) (hss : pes.all (fun e => !isStar e) = true) : PE X (.Call (.Name x p) (pe :: pes) [] pos) (RE X.K CL fl H0 (ev gv Φ (.mk c es)) (at_ fl (.mk c es))) := by
  refine ⟨fun pins s σ H Q I hw => ?_⟩
  obtain ⟨env, O, t, ok, hf, q⟩ := hw
  simp only [ev] at hf
  obtain ⟨ts, ht, hf⟩ := bind1 hf
  obtain ⟨r, hz, hr'⟩ := bind1 hf
  clear hf
  obtain ⟨k1, k2⟩ := hT.mkc c ts r h100 hz
  rcases k2 with ⟨k, f, fd, ps, u, rfl, k3, M, hb, hr, _, F⟩ | ⟨rfl, _⟩
  · cases hr'
    rw [hx] at k1
    refine (pe_make (CX := L2.CX X.prog X.w) (dvs := []) M F hr hg k1 hb .nil passL h hd (star_ok hs) (back_ok hss)).run pins s σ H Q I ⟨env, O, ts, ok, ht, fun vs H1 e1 r1 a dx h1 h2 hn => ?_⟩
    rw [List.append_nil]
    have eA := upd2_ex (o := .own a) (o' := .ins (CL c).1 dx []) h1 h2
    refine ⟨a, dx, vs, ts, u, rfl, hn, upd_same, (r1.alloc.mono (S' := fun b => b ≠ a) fun b hb z => hb.2 (by rw [z]; exact h1)).ex eA, hz, fun v H' e' r' => ⟨rfl, ?_⟩⟩
    have h0a : H a = none := ex_none e1 h1
    have hHa : H' a = some (.ins (CL c).1 dx []) := e' _ _ upd_same
    refine q _ _ (fun b o hb' => ?_) (obj_new ok h0a upd_same (by rw [k3]; rfl) ⟨v, [], rfl, ?_, rfl⟩) fun _ _ => ⟨a, rfl, h0a⟩
    · have n1 : b ≠ a := fun z => by rw [z, h0a] at hb'; cases hb'
      rw [upd_ne n1]
      exact e' b o (eA b o (e1 b o hb'))
    · refine r'.keep (fun b o hb' hs' => ?_) fun b hb' => ⟨ex_none (e1.trans eA) hb', fun z => by rw [z, upd_same] at hb'; cases hb'⟩
      have n1 : b ≠ a := fun z => by
        subst z
        rcases hs' with hs' | hs'
        · rw [upd_same] at hs'; cases hs'
        · rw [hHa] at hb'; cases hb'; cases hs'
      rw [upd_ne n1]; exact hb'
  · exact absurd rfl (hne env [] ht)
end
end Sb
namespace Sb
open PySem L2 PySem.Spec PyProof.Rows
open Evl (Ex Ex.refl Ex.trans Ex.new)
section
variable {P : Program} {w : World} {A : Around} {E : Value → Shared → Prop} {s : Shared}
theorem perm_short {α : Type} : ∀ {l k : List α}, l.Perm k → k.length ≤ 1 → l = k
  | l, [], h, _ => List.perm_nil.mp h
  | l, [a], h, _ => List.perm_singleton.mp h
  | _, _ :: _ :: _, _, h => by simp at h
/-- sorted of a set of one tuple at most -/
theorem sorted_set1 {a : Addr} {L : List (Addr × List Int)} {es : Array (Int × Value)} {ep : Nat} {t : SetTable} {Q : Value → Shared → Prop} (R : SetTR P w s.heap a L es ep t) (hh : A.handled = none) (hl : L.length ≤ 1)
    (hQ : ∀ s' p (out : Array Value) (c : Nat), (∀ b o, s.heap.get? b = some o → s'.heap.get? b = some o) → s'.gens = s.gens → s'.os = s.os → s.heap.objs.size ≤ p →
      s'.heap.get? p = some (seqObj "list" out c) → out.toList = L.map (fun q => Value.ref q.1) → Q (.ref p) s') :
    wpAny (model P w) A (call (.builtin "sorted") [.ref a]) Q E s := by
  obtain ⟨o, ho, hex, hd⟩ := R.ob
  have hsz := R.size
  refine Calls.call_function_entry kind_sorted plain_sorted entry_sorted (args_sorted1 _) ?_
  unfold Builtin.«sorted»
  refine wpAny_bind (m := checkCount "sorted" 1 1 _) (wpAny_pure ?_)
  refine wpAny_bind (collect_set (A := A.in1) hh ⟨o, ho, hex.1, hd⟩ R.fits (by unfold scanBound; omega) R.tab.ris R.led fun s1 vs k1 hz g1 o1 pm => ?_)
  have hes : es.toList.map (·.2) = L.map fun q => Value.ref q.1 := by
    rw [R.rows]
    unfold rowsOf
    rw [List.map_map] <;> rfl
  rw [hes] at pm
  have hvs : vs = L.map fun q => Value.ref q.1 := perm_short pm (by rw [List.length_map]; exact hl)
  have hvl : vs.length < 64 := by rw [hvs, List.length_map]; omega
  refine wpAny_bind (wpAny_newList ?_ (by rw [sizeLine_eq]; omega))
  have hoL : (s1.heap.push (seqObj "list" vs.toArray 0)).get? s1.heap.objs.size = some (seqObj "list" vs.toArray 0) := Heap.get?_push_size _ rfl
  refine wpAny_bind (wpAny_holding (wpAny_call_entry slot_list_sort ⟨_, hoL, rfl⟩ entry_list_sort (SK.plain_sort (s := { s1 with heap := s1.heap.push (seqObj "list" vs.toArray 0) }) (r := fun _ => 0) hoL hvl (fun h2 => absurd h2 (by rw [hvs, List.length_map]; omega)) fun ps out h1 h2 h3 => ⟨_, rfl, ?_⟩) (args_list_sort _)))
  have e' : out.toList = vs := by
    have pz := (h2.map Prod.snd)
    rw [List.map_snd_zip (Nat.le_refl _), ← h1] at pz
    exact perm_short pz (by rw [hvs, List.length_map]; exact hl)
  obtain ⟨c, hc⟩ := sortedHeap_at (vs := vs) (out := out) hoL
  refine wpAny_pure ⟨_, rfl, hQ _ s1.heap.objs.size out c (fun b u e => ?_) g1 o1 hz hc (by rw [e', hvs])⟩
  have q := k1 b u e
  have hlt := Heap.lt_size q
  show (sortedHeap (s1.heap.push (seqObj "list" vs.toArray 0)) s1.heap.objs.size vs out).get? b = some u
  rw [sortedHeap_old (Nat.ne_of_lt hlt) (by rw [size_push']; exact Nat.lt_succ_of_lt hlt)]
  exact Heap.get?_push_of_some _ q
end
section
variable {X : Cx}
def rSorted1 (K : PySem.W.Frag) (P : Program) (w : World) : List V → Hp → VK → Prop := fun vs H Q => ∃ (a : Addr) (L : List (Addr × List Int)), vs = [V.ref a] ∧ H a = some (SetTO P w a L) ∧ (∀ p ∈ L, SqT K H p.1 (p.2.map V.int)) ∧ (∀ p ∈ L, p.2 = []) ∧
  ∀ p : Addr, L.length ≤ 1 → H p = none → Q (.ref p) (upd H p (.lst (L.map fun q => V.ref q.1)))
theorem cr_sorted1 (hc : X.calm = true) : CallR X (.builtin "sorted") (rSorted1 X.K X.prog X.w) := by
  intro pins s σ H vs us Q I r h
  obtain ⟨a, L, rfl, ha, hk, hl0, q⟩ := h
  have R0 : SetT0 X.prog X.w s.heap a L := (I.hok a _ ha).1
  obtain ⟨es, ep, t, R⟩ := R0.full fun p hp => I.isT (hk p hp)
  have hl : L.length ≤ 1 := by
    have nd := R.nd
    match L, hl0, nd with
    | [], _, _ => exact Nat.zero_le _
    | [_], _, _ => exact Nat.le_refl _
    | p :: p' :: r, h0, nd =>
      exfalso
      rw [List.map_cons, List.map_cons, h0 p (by simp), h0 p' (by simp)] at nd
      simp at nd
  rw [Vals.ref1 r]
  refine sorted_set1 R (I.ok.hd hc) hl fun s' p out c k g o hp hg hout => ?_
  have hlen : (L.map fun q => V.ref q.1).length ≤ sizeLine := by rw [List.length_map, sizeLine_eq]; omega
  have hn : H p = none := I.hok.fresh hp
  have hv : Vals (L.map fun q => V.ref q.1) out.toList := by rw [hout]; exact vals_of_refs L
  have J : Inv X pins σ (upd H p (.lst (L.map fun q => V.ref q.1))) { s with heap := s'.heap, gens := s'.gens, drawn := s'.drawn, toks := s'.toks } :=
    I.call (ch := []) (Un.laid k hp hn) (I.hok.laid k hp ⟨hlen, out.toList, c, hv, hg⟩) (by rw [g]; exact I.bare) (fun _ z => nomatch z)
  have e : s' = { s with heap := s'.heap, gens := s'.gens, drawn := s'.drawn, toks := s'.toks } := by
    cases s'
    cases s
    cases o
    rfl
  rw [e]
  exact ⟨.ref p, _, J, rfl, q p hl hn⟩
def rSrt2 (K : PySem.W.Frag) (P : Program) (w : World) : List V → Hp → VK → Prop := fun vs H Q => rSortedT K P w vs H Q ∨ rSorted1 K P w vs H Q
theorem cr_srt2 (hc : X.calm = true) : CallR X (.builtin "sorted") (rSrt2 X.K X.prog X.w) := by
  intro pins s σ H vs us Q I r h
  rcases h with h | h
  · exact cr_sortedT hc pins s σ H vs us Q I r h
  · exact cr_sorted1 hc pins s σ H vs us Q I r h
end
theorem tups_of {K : PySem.W.Frag} {CL : Nat → Addr × List Str} {H : Hp} : ∀ {ts : List T} {S : AS} {vs : List V} {ks : List (List Int)}, Reps K CL H ts S vs → asTups ts = some ks →
    ∃ ps : List (Addr × List Int), ps.map (·.2) = ks ∧ vs = ps.map (fun p => V.ref p.1) ∧ ∀ p ∈ ps, SqT K H p.1 (p.2.map V.int) ∧ H p.1 = some (.tup (p.2.map V.int)) ∧ p.2.length ≤ LIM
  | [], S, vs, ks, h, e => by
    cases h
    cases e
    exact ⟨[], rfl, rfl, fun p hp => by cases hp⟩
  | t :: ts, S, vs, ks, h, e => by
    obtain ⟨v, r, rfl, h1, h2⟩ := h
    cases t with
    | tup us =>
      rw [asTups] at e
      obtain ⟨k, e1, e⟩ := bind1 e
      obtain ⟨kr, e2, rfl⟩ := map1 e
      have := asInts_eq e1
      subst this
      obtain ⟨a, ws, rfl, g1, g2, g3, g4⟩ := rep_tup h1
      rw [g2.ints] at g1 g4
      obtain ⟨ps, p1, p2, p3⟩ := tups_of h2 e2
      refine ⟨(a, k) :: ps, by rw [List.map_cons, p1], by rw [List.map_cons, p2], fun p hp => ?_⟩
      rcases List.mem_cons.mp hp with rfl | hp
      · exact ⟨g1, g4, by rw [List.length_map] at g3; exact g3⟩
      · exact p3 p hp
    | _ => cases e
theorem reps_keys {K : PySem.W.Frag} {CL : Nat → Addr × List Str} {H : Hp} {S : AS} : ∀ {L : List (Addr × List Int)}, (∀ p ∈ L, H p.1 = some (.tup (p.2.map V.int)) ∧ p.2.length ≤ LIM) → Reps K CL H (L.map fun q => T.tup (q.2.map T.int)) S (L.map fun q => V.ref q.1)
  | [], _ => rfl
  | q :: L, h => by
    obtain ⟨h1, h2⟩ := h q List.mem_cons_self
    exact ⟨_, _, rfl, ⟨q.1, _, rfl, h1, by rw [List.length_map]; exact h2, Reps.of_ints⟩, reps_keys fun p hp => h p (List.mem_cons_of_mem _ hp)⟩
/-- two rising lists of the same members are one -/
theorem rise_same : ∀ {l r : List (List Int)}, l.Perm r → l.Pairwise (fun a b => TS.code 64 a ≤ TS.code 64 b) → r.Pairwise (fun a b => TS.code 64 a < TS.code 64 b) → l = r
  | [], r, p, _, _ => (List.nil_perm.mp p).symm
  | a :: l, [], p, _, _ => by have := p.length_eq; simp at this
  | a :: l, b :: r, p, h1, h2 => by
    rw [List.pairwise_cons] at h1 h2
    have e : a = b := by
      rcases List.mem_cons.mp (p.mem_iff.mp List.mem_cons_self : a ∈ b :: r) with z | z
      · exact z
      · rcases List.mem_cons.mp (p.mem_iff.mpr List.mem_cons_self : b ∈ a :: l) with y | y
        · exact y.symm
        · have := h2.1 a z
          have := h1.1 b y
          omega
    subst e
    rw [rise_same (List.Perm.cons_inv p) h1.2 h2.2]
section
variable {X : Cx} {CL : Nat → Addr × List Str} {H0 : Hp} {fl : Fl} {gv : Nat → Option Int} {Φ : Nat → List T → Option R} {nm : Nm} {pos : Pos}
theorem e_sst (hT : Tb X CL nm gv Φ) {a : E} {pa : Expr} {p p2 q2 : Pos} (hg : Gl X "sorted") (hg2 : Gl X "set") (ha : PE X pa (RE X.K CL fl H0 (ev gv Φ a) (at_ fl a))) (hs : isStar pa = false) :
    PE X (.Call (.Name "sorted" p) [.Call (.Name "set" p2) [pa] [] q2] [] pos) (RE X.K CL fl H0 (ev gv Φ (.sst a)) (at_ fl (.sst a))) := by
  refine ⟨fun pins s σ H Q I h => ?_⟩
  obtain ⟨env, O, t, ok, hf, q⟩ := h
  simp only [ev] at hf
  obtain ⟨x, hx, hz⟩ := bind1 hf
  simp only [at_, imA] at q
  cases x with
  | lst ts =>
    rw [sstT] at hz
    obtain ⟨ks, hks, hz⟩ := bind1 hz
    obtain ⟨hok, rfl⟩ := ite1 hz
    simp only [sstOk, Bool.and_eq_true, decide_eq_true_eq] at hok
    obtain ⟨⟨⟨⟨h64, hsub⟩, hsup⟩, hrise⟩, hsz⟩ := hok
    have hin := pe_callTy (p := p2) (pos := q2) (cr_setOfT hT.calm (by have := hT.room; omega)) hg2 (hT.blt "set" (by decide)) PyProof.Rows.boot_set (pa_cons ha pa_nil (star_ok hs)) (by decide) (by decide) (star_ok hs) rfl
    have hout := pe_callB (p := p) (pos := pos) (cr_srt2 hT.calm) hg (hT.blt "sorted" (by decide)) PyProof.Rows.boot_sorted (pa_cons hin pa_nil rfl) (by decide) (by decide) rfl rfl
    refine hout.run pins s σ H Q I ⟨env, O, _, ok, hx, fun v H1 e1 r1 _ => ?_⟩
    obtain ⟨l, vs, rfl, _, g1, g2, hl⟩ := rep_lst r1
    obtain ⟨ps, p1, p3, p4⟩ := tups_of g2 hks
    rw [p3] at g1
    refine ⟨l, ps, rfl, g1, fun p hp => (p4 p hp).1, by rw [← List.length_map (f := (·.2)), p1]; exact h64.1, fun b L hb s1 s2 => ?_⟩
    have eb : Ex H1 (upd H1 b (SetTO X.prog X.w b L)) := Ex.new hb
    have tb : ∀ p ∈ L, (upd H1 b (SetTO X.prog X.w b L)) p.1 = some (.tup (p.2.map V.int)) ∧ p.2.length ≤ LIM := fun p hp => ⟨eb _ _ (p4 p (s1 p hp)).2.1, (p4 p (s1 p hp)).2.2⟩
    have mem : ∀ k, k ∈ L.map (·.2) ↔ k ∈ sstL ks := fun k => by
      constructor
      · intro hk
        obtain ⟨p, hp, rfl⟩ := List.mem_map.mp hk
        have : p.2 ∈ ks := by rw [← p1]; exact List.mem_map_of_mem (s1 p hp)
        simpa using List.all_eq_true.mp hsup _ this
      · intro hk
        have : k ∈ ks := by simpa using List.all_eq_true.mp hsub _ hk
        rw [← p1] at this
        obtain ⟨p, hp, rfl⟩ := List.mem_map.mp this
        exact s2 p hp
    have hbd : ∀ p ∈ L, p.2.length = (ks.headD []).length ∧ TS.Bd 64 p.2 := fun p hp => by
      have hk : p.2 ∈ ks := by rw [← p1]; exact List.mem_map_of_mem (s1 p hp)
      have := List.all_eq_true.mp hsz _ hk
      rw [Bool.and_eq_true, decide_eq_true_eq, List.all_eq_true] at this
      refine ⟨this.1, fun i hi => ?_⟩
      simpa using this.2 i hi
    have hsq : ∀ p ∈ L, SqT X.K (upd H1 b (SetTO X.prog X.w b L)) p.1 (p.2.map V.int) := fun p hp => .inl (.inl (tb p hp).1)
    have fin : ∀ (L' : List (Addr × List Int)) (c : Addr), L'.map (·.2) = sstL ks → (∀ p ∈ L', p ∈ L) → (upd H1 b (SetTO X.prog X.w b L)) c = none → Q (.ref c) (upd (upd H1 b (SetTO X.prog X.w b L)) c (.lst (L'.map fun q => V.ref q.1))) := fun L' c hL' hsL hc => by
      have ec : Ex (upd H1 b (SetTO X.prog X.w b L)) (upd (upd H1 b (SetTO X.prog X.w b L)) c (.lst (L'.map fun q => V.ref q.1))) := Ex.new hc
      have et : ((sstL ks).map fun k => T.tup (k.map .int)) = L'.map fun q => T.tup (q.2.map T.int) := by rw [← hL', List.map_map]; rfl
      rw [et] at q
      refine q _ _ ((e1.trans eb).trans ec) (new_lst (ok.exd (e1.trans eb)) hc ?_ (reps_keys fun p hp => tb p (hsL p hp))) fun _ _ => ⟨c, rfl, ex_none (e1.trans eb) hc⟩
      have hle : L'.length < 64 := by
        have h2 := h64.2
        rw [← hL', List.length_map] at h2
        exact h2
      rw [List.length_map]
      show _ ≤ 1000000
      omega
    by_cases hd : 1 ≤ (ks.headD []).length
    · refine .inl ⟨b, L, _, 64, rfl, upd_same, hsq, hd, hbd, fun L' c pm nd hlt pw hc => fin L' c ?_ (fun p hp => pm.mem_iff.mp hp) hc⟩
      refine rise_same ?_ (List.pairwise_map.mpr pw) hrise
      refine (List.perm_ext_iff_of_nodup nd (hrise.imp fun {a b} hab e => by subst e; omega)).mpr fun k => ?_
      rw [← mem k, (pm.map (·.2)).mem_iff]
    · refine .inr ⟨b, L, rfl, upd_same, hsq, fun p hp => List.length_eq_zero_iff.mp (by have := (hbd p hp).1; omega), fun c hl hc => fin L c ?_ (fun p hp => hp) hc⟩
      have nd : (L.map (·.2)).Nodup := by
        match L, hl with
        | [], _ => simp
        | [_], _ => simp
        | _ :: _ :: _, hl => simp at hl
      have pm : (L.map (·.2)).Perm (sstL ks) := (List.perm_ext_iff_of_nodup nd (hrise.imp fun {a b} hab e => by subst e; omega)).mpr mem
      exact perm_short pm (by rw [← pm.length_eq, List.length_map]; exact hl)
  | _ => cases hz
end
end Sb
namespace Sb
open PySem L2
open Evl (Ex Ex.refl Ex.trans Ex.new)
def setAllV : List Nat → List V → L2.St → L2.St
  | i :: is, v :: vs, σ => setAllV is vs (σ.set i (some v))
  | _, _, σ => σ
/-- a target's store, by values -/
def RG (K : PySem.W.Frag) (CL : Nat → Addr × List Str) (tg : Tg) : TG := fun v σ H Q => match tg with
  | .nm i => Q (σ.set i (some v)) H
  | .tp is => ∃ a vs, v = .ref a ∧ (SqT K H a vs ∨ SqL K H a vs) ∧ vs.length = is.length ∧ Q (setAllV is vs σ) H
section
variable {X : Cx} {CL : Nat → Addr × List Str} {nm : Nm} {gv : Nat → Option Int} {Φ : Nat → List T → Option R} {fl : Fl} {H0 : Hp} {pos p : Pos}
theorem g_nm (hN : X.N.Nodup) {i : Nat} {pe : Expr} {fb : Str → Bool} (h : tgNm X.N X.env.scope fb i pe = true) (hf : ∀ x, fb x = true → X.fn x = true) : PG X pe (gName i) := by
  cases pe with
  | Name x pos =>
    simp only [tgNm, Bool.and_eq_true, Bool.or_eq_true, decide_eq_true_eq] at h
    exact pg_name hN h.1.1 (loc_ok h.1.2) (h.2.imp (hf x) id)
  | _ => cases h
theorem nm_name {N : List Str} {sc : Scope} {i : Nat} {pe : Expr} {fb : Str → Bool} (h : tgNm N sc fb i pe = true) : ∃ x pos, pe = .Name x pos := by
  cases pe with
  | Name x pos => exact ⟨x, pos, rfl⟩
  | _ => cases h
def gNms : List Nat → TGs
  | [] => gNil
  | i :: is => gCons (gName i) (gNms is)
theorem gNms_ok : ∀ {is : List Nat} {vs : List V} {σ : L2.St} {H : Hp} {Q : L2.St → Hp → Prop}, vs.length = is.length → Q (setAllV is vs σ) H → gNms is vs σ H Q
  | [], [], _, _, _, _, h => ⟨rfl, h⟩
  | i :: is, v :: vs, σ, H, Q, hl, h => ⟨v, vs, rfl, gNms_ok (is := is) (by simpa using hl) h⟩
theorem g_nms (hN : X.N.Nodup) {fb : Str → Bool} (hf : ∀ x, fb x = true → X.fn x = true) : ∀ {is : List Nat} {pes : List Expr}, tgNms X.N X.env.scope fb is pes = true →
    PGs X pes (gNms is) ∧ (assignEach pes X.env).length = is.length ∧ (assignEach pes X.env).findIdx? (·.1) = none
  | [], [], _ => ⟨pgs_nil, rfl, rfl⟩
  | [], _ :: _, h => by cases h
  | _ :: _, [], h => by cases h
  | i :: is, pe :: pes, h => by
    have h' : tgNm X.N X.env.scope fb i pe = true ∧ tgNms X.N X.env.scope fb is pes = true := by simpa [tgNms] using h
    obtain ⟨g, l, f⟩ := g_nms hN hf h'.2
    have g1 := g_nm hN h'.1 hf
    obtain ⟨x, pos, rfl⟩ := nm_name h'.1
    refine ⟨pgs_cons g1 g rfl, ?_, ?_⟩
    · show (assignEach pes X.env).length + 1 = is.length + 1
      rw [l]
    · have e : assignEach (.Name x pos :: pes) X.env = (false, assign (.Name x pos) X.env) :: assignEach pes X.env := rfl
      rw [e, List.findIdx?_cons, f]
      rfl
theorem g_tg (hN : X.N.Nodup) (hc : X.calm = true) {tg : Tg} {pe : Expr} {fb : Str → Bool} (h : tgC X.N X.env.scope fb tg pe = true) (hf : ∀ x, fb x = true → X.fn x = true) : PG X pe (RG X.K CL tg) := by
  cases tg with
  | nm i =>
    refine ⟨fun pins s σ H v u Q I r hq => ?_⟩
    exact (g_nm hN (by simpa [tgC] using h) hf).run pins s σ H v u Q I r hq
  | tp is =>
    cases pe with
    | Tuple es k pos =>
      obtain ⟨g, l, f⟩ := g_nms hN hf (by simpa [tgC] using h)
      refine ⟨fun pins s σ H v u Q I r hq => ?_⟩
      obtain ⟨a, vs, e, hv, hl, hq⟩ := hq
      rcases hv with hv | hv
      · exact (pg_tup hc g l f).run pins s σ H v u Q I r ⟨a, vs, e, hv, hl, gNms_ok hl hq⟩
      · exact (pg_unl hc g l f).run pins s σ H v u Q I r ⟨a, vs, e, hv, hl, gNms_ok hl hq⟩
    | _ => cases h
/-- trees and values of the targets go together -/
theorem setAll_len : ∀ (is : List Nat) (ts : List T) (env : Env), (setAll is ts env).length = env.length
  | [], _, _ => by simp [setAll]
  | _ :: _, [], _ => by simp [setAll]
  | i :: is, t :: ts, env => by rw [setAll, setAll_len]; simp
theorem setAllV_len : ∀ (is : List Nat) (ts : List V) (env : L2.St), (setAllV is ts env).length = env.length
  | [], _, _ => by simp [setAllV]
  | _ :: _, [], _ => by simp [setAllV]
  | i :: is, t :: ts, env => by rw [setAllV, setAllV_len]; simp
/-- what stands in a slot behind the stores: one of the items, or what stood -/
theorem setAll_get : ∀ {is : List Nat} {ts : List T} {vs : List V} {env : Env} {σ : L2.St} {K : PySem.W.Frag} {H : Hp} {S : AS} {j : Nat} {t : T}, σ.length = env.length → Reps K CL H ts S vs → ts.length = is.length → (setAll is ts env)[j]? = some (some t) →
    (∃ v, (setAllV is vs σ)[j]? = some (some v) ∧ Rep K CL H t S v ∧ j ∈ is) ∨ (j ∉ is ∧ env[j]? = some (some t) ∧ (setAllV is vs σ)[j]? = σ[j]?)
  | [], [], vs, env, σ, K, H, S, j, t, hl, r, _, h => by
    cases r
    exact .inr ⟨by simp, h, rfl⟩
  | i :: is, t0 :: ts, vs, env, σ, K, H, S, j, t, hl, r, hn, h => by
    obtain ⟨v0, r', e, r1, r2⟩ := r
    subst e
    have hl' : (σ.set i (some v0)).length = (env.set i (some t0)).length := by simp [hl]
    rcases setAll_get (is := is) (σ := σ.set i (some v0)) hl' r2 (by simpa using hn) (show (setAll is ts (env.set i (some t0)))[j]? = some (some t) from h) with ⟨v, h1, h2, h3⟩ | ⟨h1, h2, h3⟩
    · exact .inl ⟨v, h1, h2, List.mem_cons_of_mem _ h3⟩
    · by_cases hj : i = j
      · subst hj
        have hi : i < env.length := by
          have := (List.getElem?_eq_some_iff.mp h2).1
          simpa using this
        rw [List.getElem?_set_self hi] at h2
        cases h2
        refine .inl ⟨v0, ?_, r1, List.mem_cons_self⟩
        show (setAllV is r' (σ.set i (some v0)))[i]? = some (some v0)
        rw [h3, List.getElem?_set_self (by omega)]
      · rw [List.getElem?_set_ne hj] at h2
        refine .inr ⟨by simp only [List.mem_cons, not_or]; exact ⟨fun z => hj z.symm, h1⟩, h2, ?_⟩
        show (setAllV is r' (σ.set i (some v0)))[j]? = σ[j]?
        rw [h3, List.getElem?_set_ne hj]
  | [], _ :: _, _, _, _, _, _, _, _, _, _, _, hn, _ => by cases hn
  | _ :: _, [], _, _, _, _, _, _, _, _, _, _, hn, _ => by cases hn
/-- a stored target: the new slots -/
theorem bind_get {K : PySem.W.Frag} {H : Hp} {S : AS} {tg : Tg} {t : T} {v : V} {env env' : Env} {σ : L2.St} {Q : L2.St → Hp → Prop} (hl : σ.length = env.length) (hb : bindT tg t env = some env') (r : Rep K CL H t S v)
    (k : ∀ σ', σ'.length = env'.length → (∀ j u, env'[j]? = some (some u) → (∃ w, σ'[j]? = some (some w) ∧ j ∈ tgSlots tg ∧ Rep K CL H u S w) ∨ (j ∉ tgSlots tg ∧ env[j]? = some (some u) ∧ σ'[j]? = σ[j]?)) →
      (∀ vs : List Nat, (∀ j ∈ tgSlots tg, j ∈ vs) → wipe σ' vs = wipe σ vs) → (tgSlots tg ≠ [] → tg = .nm (tgSlots tg).head! → σ' = σ.set (tgSlots tg).head! (some v)) → Q σ' H) : RG K CL tg v σ H Q := by
  have wset : ∀ (vs : List Nat) (σ : L2.St) (i : Nat) (x : Option V), i ∈ vs → wipe (σ.set i x) vs = wipe σ vs := by
    intro vs
    induction vs with
    | nil => intro σ i x h; cases h
    | cons w vs ih =>
      intro σ i x h
      unfold wipe
      by_cases hi : i ∈ vs
      · rw [ih σ i x hi]
      · have e : i = w := by
          rcases List.mem_cons.mp h with e | e
          · exact e
          · exact absurd e hi
        subst e
        apply List.ext_getElem?
        intro n
        by_cases hn : i = n
        · subst hn
          by_cases hlt : i < σ.length
          · rw [List.getElem?_set_self (by rw [wipe_length, List.length_set]; exact hlt), List.getElem?_set_self (by rw [wipe_length]; exact hlt)]
          · rw [List.getElem?_eq_none (by rw [List.length_set, wipe_length, List.length_set]; omega), List.getElem?_eq_none (by rw [List.length_set, wipe_length]; omega)]
        · rw [List.getElem?_set_ne hn, List.getElem?_set_ne hn]
          have key : ∀ (us : List Nat) (σ : L2.St), (wipe (σ.set i x) us)[n]? = (wipe σ us)[n]? := by
            intro us
            induction us with
            | nil => intro σ; exact List.getElem?_set_ne hn
            | cons u us ihu =>
              intro σ
              unfold wipe
              by_cases hu : u = n
              · subst hu
                have hl : (wipe (σ.set i x) us).length = (wipe σ us).length := by rw [wipe_length, wipe_length, List.length_set]
                by_cases hlt : u < (wipe σ us).length
                · rw [List.getElem?_set_self (by omega), List.getElem?_set_self hlt]
                · rw [List.getElem?_eq_none (by rw [List.length_set]; omega), List.getElem?_eq_none (by rw [List.length_set]; omega)]
              · rw [List.getElem?_set_ne hu, List.getElem?_set_ne hu, ihu]
          exact key vs σ
  cases tg with
  | nm i =>
    have e : env' = env.set i (some t) := (Option.some.inj hb).symm
    subst e
    refine k (σ.set i (some v)) (by simp [hl]) (fun j u h => ?_) (fun vs hv => wset vs σ i _ (hv i (List.mem_singleton.2 rfl))) (fun _ _ => rfl)
    by_cases hj : i = j
    · subst hj
      have hi : i < env.length := by
        have := (List.getElem?_eq_some_iff.mp h).1
        simpa using this
      rw [List.getElem?_set_self hi] at h
      cases h
      exact .inl ⟨v, List.getElem?_set_self (by omega), List.mem_singleton.2 rfl, r⟩
    · rw [List.getElem?_set_ne hj] at h
      exact .inr ⟨by simp [tgSlots]; exact fun z => hj z.symm, h, List.getElem?_set_ne hj⟩
  | tp is =>
    have main : ∀ (ts : List T) (a : Addr) (vs : List V), v = .ref a → (SqT K H a vs ∨ SqL K H a vs) → Reps K CL H ts S vs → ts.length = is.length → env' = setAll is ts env → RG K CL (.tp is) v σ H Q := by
      intro ts a vs e hv hr hlen he
      subst he
      refine ⟨a, vs, e, hv, by rw [hr.len]; exact hlen, k (setAllV is vs σ) (by rw [setAll_len, setAllV_len, hl]) (fun j u h => ?_) (fun ws hw => ?_) (fun _ z => nomatch z)⟩
      · rcases setAll_get hl hr hlen h with ⟨w, h1, h2, h3⟩ | h
        · exact .inl ⟨w, h1, h3, h2⟩
        · exact .inr h
      · have key : ∀ (js : List Nat) (us : List V) (σ : L2.St), (∀ j ∈ js, j ∈ ws) → wipe (setAllV js us σ) ws = wipe σ ws := by
          intro js
          induction js with
          | nil => intro us σ _; cases us <;> rfl
          | cons j js ih =>
            intro us σ h
            cases us with
            | nil => rfl
            | cons u us =>
              show wipe (setAllV js us (σ.set j (some u))) ws = wipe σ ws
              rw [ih us _ fun q hq => h q (List.mem_cons_of_mem _ hq), wset ws σ j _ (h j List.mem_cons_self)]
        exact key is vs σ hw
    cases t with
    | tup ts =>
      obtain ⟨hc, e⟩ := ite1 hb
      obtain ⟨a, vs, e1, h1, h2, _⟩ := rep_tup r
      exact main ts a vs e1 (.inl h1) h2 hc e.symm
    | lst ts =>
      obtain ⟨hc, e⟩ := ite1 hb
      obtain ⟨a, vs, e1, _, h1, h2, _⟩ := rep_lst r
      exact main ts a vs e1 (.inr h1) h2 hc e.symm
    | _ => cases hb
end
end Sb
namespace Sb
open PySem L2
open Evl (Ex Ex.refl Ex.trans Ex.new)
section
variable {X : Cx} {CL : Nat → Addr × List Str} {nm : Nm} {gv : Nat → Option Int} {Φ : Nat → List T → Option R} {fl : Fl} {H0 : Hp} {pos p : Pos} {tg : Expr}
theorem sql_inj {K : PySem.W.Frag} {H : Hp} {a : Addr} {xs ys : List V} (h : H a = some (.lst xs)) (h' : SqL K H a ys) (hk : ∀ o, K.lookup a = some o → False) : xs = ys := by
  rcases h' with (h' | ⟨o, h'⟩) | ⟨o, _, _, h', _⟩
  · rw [h] at h'; cases h'; rfl
  · rw [h] at h'; cases h'
  · exact (hk o h').elim
/-- a list's iterator -/
theorem jw_list {K : PySem.W.Frag} {H1 : Hp} {ts : List T} {S : AS} {a : Addr} (r : Rep K CL H1 (.lst ts) S (.ref a)) : JW K CL (Itl K a) ts S H1 := by
  intro H k i
  have r' : Rep K CL H (.lst ts) S (.ref a) := r.keep k fun _ q => q
  obtain ⟨b, vs, e, _, h1, h2, _⟩ := rep_lst r'
  cases e
  refine ⟨fun t ht => ?_, fun hi => ⟨vs, h1, by rw [h2.len]; exact hi⟩⟩
  obtain ⟨v, hv, rv⟩ := h2.get ht
  refine ⟨⟨vs, v, h1, hv⟩, fun x H' y => ?_⟩
  obtain ⟨rfl, y⟩ := y
  have := y vs h1
  rw [hv] at this
  cases this
  exact ⟨Ex.refl _, rv⟩
theorem jw_tup {K : PySem.W.Frag} {H1 : Hp} {ts : List T} {S : AS} {a : Addr} (r : Rep K CL H1 (.tup ts) S (.ref a)) : JW K CL (Itt K a) ts S H1 := by
  intro H k i
  have r' : Rep K CL H (.tup ts) S (.ref a) := r.keep k fun _ q => q
  obtain ⟨b, vs, e, h1, h2, _⟩ := rep_tup r'
  cases e
  refine ⟨fun t ht => ?_, fun hi => ⟨vs, h1, by rw [h2.len]; exact hi⟩⟩
  obtain ⟨v, hv, rv⟩ := h2.get ht
  refine ⟨⟨vs, v, h1, hv⟩, fun x H' y => ?_⟩
  obtain ⟨rfl, y⟩ := y
  have := y vs h1
  rw [hv] at this
  cases this
  exact ⟨Ex.refl _, rv⟩
theorem jw_scr {K : PySem.W.Frag} {H1 : Hp} {ns : List Int} {S S' : AS} {a : Addr} (r : Rep K CL H1 (.scr ns) S' (.ref a)) : JW K CL (Itl K a) (ns.map .int) S H1 := by
  intro H k i
  obtain ⟨b, e, h1, _⟩ := r
  cases e
  have h1 := (sqf_keep k h1).l
  have h2 : Reps K CL H (ns.map T.int) S (ns.map V.int) := Reps.of_ints
  refine ⟨fun t ht => ?_, fun hi => ⟨_, h1, by rw [List.length_map] at hi ⊢; exact hi⟩⟩
  obtain ⟨v, hv, rv⟩ := h2.get ht
  refine ⟨⟨_, v, h1, hv⟩, fun x H' y => ?_⟩
  obtain ⟨rfl, y⟩ := y
  have := y _ h1
  rw [hv] at this
  cases this
  exact ⟨Ex.refl _, rv⟩
theorem jw_keys {K : PySem.W.Frag} {H1 : Hp} {ks : List (List Int)} {S : AS} {a : Addr} {kvs : List (List Key × V)} {od : Obj} (h1 : H1 a = some (.frz od (.dT kvs))) (h2 : kvs.map (·.1) = ks.map (fun k => k.map Sum.inl)) (h3 : ks.all (fun k => decide (k.length ≤ 100)) = true) : JW K CL (Itkt a od kvs) (ks.map fun k => .tup (k.map .int)) S H1 := by
  intro H k i
  have hH : H a = some (.frz od (.dT kvs)) := k a _ h1 (.inr rfl)
  have hl : kvs.length = ks.length := by have := congrArg List.length h2; simpa using this
  refine ⟨fun t ht => ?_, fun hi => ⟨hH, by rw [List.length_map] at hi; omega⟩⟩
  rw [List.getElem?_map] at ht
  cases hk : ks[i]? with
  | none => rw [hk] at ht; cases ht
  | some q =>
    rw [hk] at ht
    cases ht
    have hi : i < ks.length := (List.getElem?_eq_some_iff.mp hk).1
    refine ⟨⟨hH, by omega⟩, fun x H' y => ?_⟩
    obtain ⟨rfl, kk, v, p, y1, rfl, y2⟩ := y
    have e : kk = q.map Sum.inl := by
      have := congrArg (fun l => l[i]?) h2
      simp only [List.getElem?_map, y1, hk, Option.map_some, Option.some.injEq] at this
      exact this
    refine ⟨Ex.refl _, ⟨p, _, rfl, y2, ?_, ?_⟩⟩
    · have := List.all_eq_true.mp h3 q (List.mem_of_getElem? hk)
      have := of_decide_eq_true this
      rw [List.length_map]
      show _ ≤ 1000000
      omega
    · rw [e, List.map_map]
      exact Reps.of_ints
theorem jw_rng {K : PySem.W.Frag} {H1 : Hp} {S : AS} (lo : Int) (n : Nat) : JW K CL (Itr lo n) ((List.range n).map fun (i : Nat) => .int (lo + (i : Int))) S H1 := by
  intro H k i
  refine ⟨fun t ht => ?_, fun hi => by rw [List.length_map, List.length_range] at hi; exact hi⟩
  rw [List.getElem?_map] at ht
  obtain ⟨j, hj, e⟩ := Option.map_eq_some_iff.mp ht
  obtain ⟨hlt, hj⟩ := List.getElem?_eq_some_iff.mp hj
  rw [List.length_range] at hlt
  rw [List.getElem_range] at hj
  subst hj
  refine ⟨hlt, fun x H' y => ?_⟩
  obtain ⟨rfl, rfl⟩ := y
  subst e
  exact ⟨Ex.refl _, rfl⟩
theorem enumT_get : ∀ {ts : List T} {n i : Nat} {t : T}, (enumT n ts)[i]? = some t → ∃ u, ts[i]? = some u ∧ t = .tup [.int ((n + i : Nat) : Int), u]
  | [], _, _, _, h => by simp [enumT] at h
  | u :: ts, n, 0, t, h => by simp [enumT] at h; exact ⟨u, rfl, by rw [← h]; rfl⟩
  | u :: ts, n, i + 1, t, h => by
    obtain ⟨w, h1, h2⟩ := enumT_get (ts := ts) (n := n + 1) (i := i) (t := t) (by simpa [enumT] using h)
    exact ⟨w, by simpa using h1, by rw [h2]; congr 3; omega⟩
theorem enumT_len : ∀ {ts : List T} {n : Nat}, (enumT n ts).length = ts.length
  | [], _ => rfl
  | t :: ts, n => by simp [enumT, enumT_len]
theorem jw_enm {K : PySem.W.Frag} {H1 : Hp} {ts : List T} {S : AS} {a : Addr} (r : Rep K CL H1 (.lst ts) S (.ref a)) : JW K CL (Ite K a) (enumT 0 ts) S H1 := by
  intro H k i
  have r' : Rep K CL H (.lst ts) S (.ref a) := r.keep k fun _ q => q
  obtain ⟨b, vs, e, _, h1, h2, _⟩ := rep_lst r'
  cases e
  refine ⟨fun t ht => ?_, fun hi => ⟨vs, h1, by rw [h2.len]; rw [enumT_len] at hi; exact hi⟩⟩
  obtain ⟨u, hu, rfl⟩ := enumT_get ht
  obtain ⟨v, hv, rv⟩ := h2.get hu
  refine ⟨⟨vs, v, h1, hv⟩, fun x H' y => ?_⟩
  obtain ⟨Tp, w, rfl, hT, rfl, y⟩ := y
  have := y vs h1
  rw [hv] at this
  cases this
  refine ⟨Ex.new hT, new_tup hT (by show 2 ≤ LIM; decide) (.cons ?_ (.one rv))⟩
  show V.int (i : Int) = V.int ((0 + i : Nat) : Int)
  rw [Nat.zero_add]
theorem zipT_get : ∀ {ts us : List T} {i : Nat} {t : T}, (zipT ts us)[i]? = some t → ∃ a b, ts[i]? = some a ∧ us[i]? = some b ∧ t = .tup [a, b]
  | [], _, _, _, h => by simp [zipT] at h
  | _ :: _, [], _, _, h => by simp [zipT] at h
  | a :: ts, b :: us, 0, t, h => by simp [zipT] at h; exact ⟨a, b, rfl, rfl, h.symm⟩
  | a :: ts, b :: us, i + 1, t, h => by
    obtain ⟨x, y, h1, h2, h3⟩ := zipT_get (ts := ts) (us := us) (i := i) (t := t) (by simpa [zipT] using h)
    exact ⟨x, y, by simpa using h1, by simpa using h2, h3⟩
theorem zipT_len : ∀ {ts us : List T}, (zipT ts us).length = min ts.length us.length
  | [], _ => by simp [zipT]
  | _ :: _, [] => by simp [zipT]
  | a :: ts, b :: us => by simp [zipT, zipT_len]
theorem jw_zip {K : PySem.W.Frag} {H1 : Hp} {ts us : List T} {S : AS} {a b : Addr} (r : Rep K CL H1 (.lst ts) S (.ref a)) (r2 : Rep K CL H1 (.lst us) S (.ref b)) : JW K CL (Itz K a b) (zipT ts us) S H1 := by
  intro H k i
  have r' : Rep K CL H (.lst ts) S (.ref a) := r.keep k fun _ q => q
  have r2' : Rep K CL H (.lst us) S (.ref b) := r2.keep k fun _ q => q
  obtain ⟨_, vs, e, _, h1, h2, _⟩ := rep_lst r'
  cases e
  obtain ⟨_, ws, e, _, h3, h4, _⟩ := rep_lst r2'
  cases e
  refine ⟨fun t ht => ?_, fun hi => ⟨vs, ws, h1, h3, by rw [h2.len, h4.len]; rw [zipT_len] at hi; omega⟩⟩
  obtain ⟨x, y, hx, hy, rfl⟩ := zipT_get ht
  obtain ⟨v, hv, rv⟩ := h2.get hx
  obtain ⟨w, hw, rw'⟩ := h4.get hy
  refine ⟨⟨vs, ws, v, w, h1, h3, hv, hw⟩, fun z H' q => ?_⟩
  obtain ⟨Tp, v', w', rfl, hT, rfl, q1, q2⟩ := q
  have e1 := q1 vs h1
  have e2 := q2 ws h3
  rw [hv] at e1
  rw [hw] at e2
  cases e1
  cases e2
  exact ⟨Ex.new hT, new_tup hT (by show 2 ≤ LIM; decide) (.cons rv (.one rw'))⟩
theorem i_seq {e : E} {pe : Expr} (h : PE X pe (RE X.K CL fl H0 (ev gv Φ e) (at_ fl e))) : PI X tg pe (RI X.K CL fl H0 (evi gv Φ (.seq e)) (ati fl (.seq e))) := by
  refine ⟨fun pins s σ H R I hw => ?_⟩
  obtain ⟨env, O, ts, ok, hf, q⟩ := hw
  simp only [evi] at hf
  obtain ⟨x, hx, hz⟩ := bind1 hf
  simp only [ati] at q
  cases x with
  | lst us =>
    cases hz
    refine (pi_list h).run pins s σ H R I ⟨env, O, _, ok, hx, fun v H1 e1 r1 _ => ?_⟩
    obtain ⟨a, vs, rfl, _, h1, _, hl⟩ := rep_lst r1
    exact ⟨a, rfl, ⟨vs, h1⟩, q hl _ _ e1 (jw_list r1.alloc)⟩
  | tup us =>
    cases hz
    refine (pi_tup h).run pins s σ H R I ⟨env, O, _, ok, hx, fun v H1 e1 r1 _ => ?_⟩
    obtain ⟨a, vs, rfl, h1, _, hl, _⟩ := rep_tup r1
    exact ⟨a, rfl, ⟨vs, h1⟩, q hl _ _ e1 (jw_tup r1.alloc)⟩
  | scr ns =>
    cases hz
    refine (pi_list h).run pins s σ H R I ⟨env, O, _, ok, hx, fun v H1 e1 r1 _ => ?_⟩
    obtain ⟨a, rfl, h1, hl⟩ := rep_scr r1
    exact ⟨a, rfl, ⟨_, h1⟩, q (by rw [List.length_map]; exact hl) _ _ e1 (jw_scr r1)⟩
  | fdc ks ts =>
    obtain ⟨hks, rfl⟩ := ite1 hz
    refine (pi_keys h).run pins s σ H R I ⟨env, O, _, ok, hx, fun v H1 e1 r1 _ => ?_⟩
    obtain ⟨a, kvs, od, rfl, h1, hl, h2, h3⟩ := r1
    have hlen : kvs.length = ks.length := by have := congrArg List.length h2; simpa using this
    have hl3 := h3.len
    rw [List.length_map] at hl3
    exact ⟨a, od, rfl, .inr ⟨kvs, h1, q (by rw [List.length_map]; omega) _ _ e1 (jw_keys h1 h2 hks)⟩⟩
  | _ => cases hz
theorem i_rng1 (hT : Tb X CL nm gv Φ) {e : E} {pe : Expr} (hg : Gl X "range") (h : PE X pe (RE X.K CL fl H0 (ev gv Φ e) (at_ fl e))) (hs : isStar pe = false) : PI X tg (.Call (.Name "range" p) [pe] [] pos) (RI X.K CL fl H0 (evi gv Φ (.rng1 e)) (ati fl (.rng1 e))) := by
  refine ⟨fun pins s σ H R I hw => ?_⟩
  obtain ⟨env, O, ts, ok, hf, q⟩ := hw
  simp only [evi] at hf
  obtain ⟨x, hx, hz⟩ := bind1 hf
  cases x with
  | int n =>
    obtain ⟨hc, rfl⟩ := ite1 hz
    obtain ⟨h1, h2, h3, h4, h5⟩ := of_decide_eq_true hc
    refine (pi_range1 hg (hT.blt _ (by decide)) (pa_cons h pa_nil (star_ok hs)) (star_ok hs)).run pins s σ H R I ⟨env, O, _, ok, hx, fun v H1 e1 r1 _ => ?_⟩
    have r1' : v = .int n := r1
    subst r1'
    refine ⟨n, rfl, by omega, by omega, ?_⟩
    have hj := jw_rng (CL := CL) (K := X.K) (H1 := H1) (S := fun b => SS O env σ (ati fl (.rng1 e)).ret H0 (ati fl (.rng1 e)).nw b ∧ H1 b ≠ none) 0 (n - 0).toNat
    have := q (by show (rngT 0 n).length ≤ LIM; unfold rngT; rw [List.length_map, List.length_range]; exact h5) _ H1 e1 hj
    rw [Int.sub_zero] at this
    exact this
  | _ => cases hz
theorem i_rng2 (hT : Tb X CL nm gv Φ) {a b : E} {pa pb : Expr} (hg : Gl X "range") (ha : PE X pa (RE X.K CL fl H0 (ev gv Φ a) (at_ fl a))) (hb : PE X pb (RE X.K CL fl H0 (ev gv Φ b) (at_ fl b))) (hs : isStar pa = false) (hs2 : isStar pb = false) :
    PI X tg (.Call (.Name "range" p) [pa, pb] [] pos) (RI X.K CL fl H0 (evi gv Φ (.rng2 a b)) (ati fl (.rng2 a b))) := by
  refine ⟨fun pins s σ H R I hw => ?_⟩
  obtain ⟨env, O, ts, ok, hf, q⟩ := hw
  simp only [evi] at hf
  obtain ⟨x, y, hx, hy, hz⟩ := bind2 hf
  cases x with
  | int i => cases y with
    | int j =>
      obtain ⟨hc, rfl⟩ := ite1 hz
      obtain ⟨h1, h2, h3, h4, h5⟩ := of_decide_eq_true hc
      refine (pi_range2 hg (hT.blt _ (by decide)) (pa_cons ha (pa_cons hb pa_nil (star_ok hs2)) (star_ok hs)) (by rw [star_ok hs, star_ok hs2]; rfl) (by rw [star_ok hs2]; rfl)).run pins s σ H R I ⟨env, O, _, ok, hx, fun v H1 e1 r1 _ => ⟨env, O, _, ok.exd e1, hy, fun u H2 e2 r2 _ => ?_⟩⟩
      have r1' : v = .int i := r1
      have r2' : u = .int j := r2
      subst r1' r2'
      refine ⟨i, j, rfl, ⟨by omega, by omega, by omega, by omega⟩, ?_⟩
      exact q (by show (rngT i j).length ≤ LIM; unfold rngT; rw [List.length_map, List.length_range]; exact h5) _ H2 (e1.trans e2) (jw_rng i (j - i).toNat)
    | _ => cases hz
  | _ => cases y <;> cases hz
theorem i_enm (hT : Tb X CL nm gv Φ) {e : E} {pe : Expr} {es : List Expr} {k : Nat} {tp : Pos} (hg : Gl X "enumerate") (h : PE X pe (RE X.K CL fl H0 (ev gv Φ e) (at_ fl e))) (hs : isStar pe = false) :
    PI X (.Tuple es k tp) (.Call (.Name "enumerate" p) [pe] [] pos) (RI X.K CL fl H0 (evi gv Φ (.enm e)) (ati fl (.enm e))) := by
  refine ⟨fun pins s σ H R I hw => ?_⟩
  obtain ⟨env, O, ts, ok, hf, q⟩ := hw
  simp only [evi] at hf
  obtain ⟨x, hx, hz⟩ := bind1 hf
  simp only [ati] at q
  cases x with
  | lst us =>
    cases hz
    refine (pi_enum hg (hT.blt _ (by decide)) (pa_cons h pa_nil (star_ok hs)) (star_ok hs)).run pins s σ H R I ⟨env, O, _, ok, hx, fun v H1 e1 r1 _ => ?_⟩
    obtain ⟨a, vs, rfl, _, h1, _, hl⟩ := rep_lst r1
    exact ⟨a, vs, rfl, h1, q (by rw [enumT_len]; exact hl) _ _ e1 (jw_enm r1.alloc)⟩
  | _ => cases hz
theorem i_zip (hT : Tb X CL nm gv Φ) {a b : E} {pa pb : Expr} {es : List Expr} {k : Nat} {tp : Pos} (hg : Gl X "zip") (ha : PE X pa (RE X.K CL fl H0 (ev gv Φ a) (at_ fl a))) (hb : PE X pb (RE X.K CL fl H0 (ev gv Φ b) (at_ fl b))) (hs : isStar pa = false) (hs2 : isStar pb = false) :
    PI X (.Tuple es k tp) (.Call (.Name "zip" p) [pa, pb] [] pos) (RI X.K CL fl H0 (evi gv Φ (.zip a b)) (ati fl (.zip a b))) := by
  refine ⟨fun pins s σ H R I hw => ?_⟩
  obtain ⟨env, O, ts, ok, hf, q⟩ := hw
  simp only [evi] at hf
  obtain ⟨x, y, hx, hy, hz⟩ := bind2 hf
  simp only [ati] at q
  cases x with
  | lst us => cases y with
    | lst ws =>
      cases hz
      refine (pi_zip hg (hT.blt _ (by decide)) (pa_cons ha (pa_cons hb pa_nil (star_ok hs2)) (star_ok hs)) (star_ok hs) (back_ok (by simp [hs2]))).run pins s σ H R I ⟨env, O, _, ok, hx, fun v H1 e1 r1 _ => ⟨env, O, _, ok.exd e1, hy, fun u H2 e2 r2 _ => ?_⟩⟩
      have r1' := (r1.ex e2).mono (ss_mono (join_l (at_ fl a) (at_ fl b)) (join_nl (at_ fl a) (at_ fl b)))
      have r2' := r2.mono (ss_mono (join_r (at_ fl a) (at_ fl b)) (join_nr (at_ fl a) (at_ fl b)))
      obtain ⟨b1, vs, rfl, _, h1, _, hl⟩ := rep_lst r1'
      obtain ⟨b2, ws, rfl, _, h2, _, hl2⟩ := rep_lst r2'
      exact ⟨b1, b2, vs, ws, rfl, h1, h2, q (by rw [zipT_len]; omega) _ _ (e1.trans e2) (jw_zip r1'.alloc r2'.alloc)⟩
    | _ => cases hz
  | _ => cases y <;> cases hz
theorem wipe_idem (σ : L2.St) (vs : List Nat) : wipe (wipe σ vs) vs = wipe σ vs := by
  have key : ∀ (us : List Nat) (τ : L2.St) (n : Nat), (wipe τ us)[n]? = if n ∈ us ∧ n < τ.length then some none else τ[n]? := by
    intro us
    induction us with
    | nil => intro τ n; simp [wipe]
    | cons u us ih =>
      intro τ n
      unfold wipe
      by_cases hu : u = n
      · subst hu
        by_cases hlt : u < τ.length
        · rw [List.getElem?_set_self (by rw [wipe_length]; exact hlt), if_pos ⟨List.mem_cons_self, hlt⟩]
        · rw [List.getElem?_eq_none (by rw [List.length_set, wipe_length]; omega), if_neg (fun z => hlt z.2), List.getElem?_eq_none (by omega)]
      · rw [List.getElem?_set_ne hu, ih]
        have : n ∈ u :: us ↔ n ∈ us := by
          rw [List.mem_cons]
          exact ⟨fun z => z.resolve_left (fun e => hu e.symm), .inr⟩
        simp only [this]
  apply List.ext_getElem?
  intro n
  rw [key, key, wipe_length]
  split
  · rfl
  · rfl
theorem wipeE_get : ∀ {vs : List Nat} {env : Env} {j : Nat} {u : T}, (wipeE env vs)[j]? = some (some u) → env[j]? = some (some u) ∧ j ∉ vs
  | [], _, _, _, h => ⟨h, by simp⟩
  | v :: vs, env, j, u, h => by
    unfold wipeE at h
    by_cases hv : v = j
    · subst hv
      by_cases hlt : v < (wipeE env vs).length
      · rw [List.getElem?_set_self hlt] at h; cases h
      · rw [List.getElem?_eq_none (by rw [List.length_set]; omega)] at h; cases h
    · rw [List.getElem?_set_ne hv] at h
      obtain ⟨h1, h2⟩ := wipeE_get h
      exact ⟨h1, by simp only [List.mem_cons, not_or]; exact ⟨fun e => hv e.symm, h2⟩⟩
theorem wipeE_len (env : Env) : ∀ vs : List Nat, (wipeE env vs).length = env.length
  | [] => rfl
  | v :: vs => by unfold wipeE; rw [List.length_set, wipeE_len env vs]
/-- a mutable root stands in the heap, within the set -/
theorem root_in {K : PySem.W.Frag} {H : Hp} {t : T} {S : AS} {a : Addr} (r : Rep K CL H t S (.ref a)) (m : mutR t = true) : S a ∧ H a ≠ none := by
  cases t with
  | lst ts => obtain ⟨b, vs, e, h0, h1, _⟩ := r; cases e; exact ⟨h0, by rw [h1]; simp⟩
  | dct ks ts => obtain ⟨b, vs, e, h0, h1, _⟩ := r; cases e; exact ⟨h0, by rw [h1]; simp⟩
  | obj c ts => obtain ⟨b, dx, fs, e, h0, h1, _⟩ := r; cases e; exact ⟨h0, by rw [h1]; simp⟩
  | _ => cases m
theorem contains_filter {l : List Nat} {f : Nat → Bool} {i : Nat} : (l.filter f).contains i = (l.contains i && f i) := by
  rw [Bool.eq_iff_iff, List.contains_iff_mem, List.mem_filter, Bool.and_eq_true, List.contains_iff_mem]
/-- the regions that a comprehension's block goes on with: those not held, those of its own names put aside; D is nobody's -/
def OM (O : AR) (ret vs : List Nat) (M : Nat) (D : Addr) : AR := fun g' a => (∃ g, O g a ∧ g ∉ ret ∧ g' = if g ∈ vs then g + M else g) ∨ (g' = M ∧ a = D)
theorem blk_ok {K : PySem.W.Frag} {H H1 H' : Hp} {env env' : Env} {σ σ' : L2.St} {O : AR} {vs : List Nat} {ai : At} {D : Addr} {slots : List Nat} (M : Nat) (ok : Ok K CL H0 fl env σ H O) (hD : H1 D = none) (e1 : Ex H H1) (e2 : Ex H1 H') (hDs : ∃ o, H' D = some o ∧ frzO o = false)
    (hl : σ'.length = env'.length) (hsl : ∀ j ∈ slots, j ∈ vs)
    (hg : ∀ j u, env'[j]? = some (some u) → (∃ w, σ'[j]? = some (some w) ∧ j ∈ slots ∧ Rep K CL H' u (fun b => SS O env σ ai.ret H0 ai.nw b ∧ H1 b ≠ none) w) ∨ (j ∉ slots ∧ (wipeE env vs)[j]? = some (some u) ∧ σ'[j]? = (wipe σ vs)[j]?)) :
    Ok K CL H0 (flBlk fl vs ai) env' σ' H' (OM O ai.ret vs M D) := by
  have hHD : H D = none := ex_none e1 hD
  have old : ∀ j u, env'[j]? = some (some u) → j ∉ slots → (wipeE env vs)[j]? = some (some u) → σ'[j]? = (wipe σ vs)[j]? → env[j]? = some (some u) ∧ j ∉ vs ∧ σ'[j]? = σ[j]? := fun j u _ _ h2 h3 => by
    obtain ⟨h4, h5⟩ := wipeE_get h2
    exact ⟨h4, h5, by rw [h3, wipe_out h5]⟩
  have ow : ∀ j, (flBlk fl vs ai).ow.contains j = (fl.ow.contains j && (!vs.contains j && !ai.ret.contains j)) := fun j => contains_filter
  refine ⟨hl, (ok.ex.trans e1).trans e2, fun g a h => ?_, fun g a h => ?_, fun g k a h1 h2 => ?_, fun g a o h z => ?_, fun j u h => ?_, fun i t v z => by cases z⟩
  · rcases h with ⟨g0, h, _⟩ | ⟨_, rfl⟩
    · exact ok.of_ g0 a h
    · exact ex_none (ok.ex.trans e1) hD
  · rcases h with ⟨g0, h, _⟩ | ⟨_, rfl⟩
    · exact ((ok.exd e1).exd e2).oa g0 a h
    · obtain ⟨o, h1, _⟩ := hDs
      rw [h1]; simp
  · rcases h1 with ⟨g0, h1, _, rfl⟩ | ⟨rfl, rfl⟩
    · rcases h2 with ⟨k0, h2, _, rfl⟩ | ⟨_, rfl⟩
      · rw [ok.ds g0 k0 a h1 h2]
      · exact absurd hHD (ok.oa g0 _ h1)
    · rcases h2 with ⟨k0, h2, _⟩ | ⟨rfl, _⟩
      · exact absurd hHD (ok.oa k0 _ h2)
      · rfl
  · rcases h with ⟨g0, h, _⟩ | ⟨_, rfl⟩
    · exact ((ok.exd e1).exd e2).fz g0 a o h z
    · obtain ⟨o', h1, h2⟩ := hDs
      rw [h1] at z; cases z; exact h2
  · rcases hg j u h with ⟨w, h1, h2, h3⟩ | ⟨h1, h2, h3⟩
    · have hjv : vs.contains j = true := List.contains_iff_mem.mpr (hsl j h2)
      have ho : (flBlk fl vs ai).ow.contains j = false := by rw [ow, hjv]; simp
      have r4 : Rep K CL H' u (SlS (OM O ai.ret vs M D) j ((flBlk fl vs ai).nw.contains j) H0) w := h3.mono fun b hb => ⟨fun g o => by
        rcases o with ⟨g0, o, hn, _⟩ | ⟨_, rfl⟩
        · exact absurd (hb.1.1 g0 o) hn
        · exact absurd hD hb.2, fun n => hb.1.2 (by
        unfold flBlk at n
        cases hn : ai.nw with
        | true => rfl
        | false =>
          rw [hn] at n
          simp only [Bool.false_eq_true, if_false] at n
          rw [contains_filter, hjv] at n
          simp at n)⟩
      exact ⟨w, h1, r4, fun z => by rw [ho] at z; cases z⟩
    · obtain ⟨h4, h5, h6⟩ := old j u h h1 h2 h3
      obtain ⟨v, q1, q2, q3⟩ := ok.sl j u h4
      have r4 : Rep K CL H u (SlS (OM O ai.ret vs M D) j ((flBlk fl vs ai).nw.contains j) H0) v := q2.alloc.mono fun b hb => ⟨fun g o => by
        rcases o with ⟨g0, o, hn, rfl⟩ | ⟨_, rfl⟩
        · have e := hb.1.1 g0 o
          subst e
          rw [if_neg h5]
        · exact absurd hHD hb.2, fun n => hb.1.2 (by
        unfold flBlk at n
        cases hn : ai.nw with
        | true =>
          rw [hn] at n
          simp only [if_true] at n
          rw [List.contains_iff_mem, List.mem_append] at n
          rcases n with n | n
          · exact absurd n h5
          · exact List.contains_iff_mem.mpr n
        | false =>
          rw [hn] at n
          simp only [Bool.false_eq_true, if_false] at n
          rw [contains_filter, Bool.and_eq_true] at n
          exact n.1)⟩
      refine ⟨v, by rw [h6]; exact q1, (r4.ex e1).ex e2, fun z m => ?_⟩
      rw [ow, Bool.and_eq_true, Bool.and_eq_true] at z
      obtain ⟨a, ea, oa⟩ := q3 z.1 m
      refine ⟨a, ea, .inl ⟨j, oa, fun hm => ?_, by rw [if_neg h5]⟩⟩
      rw [List.contains_iff_mem.mpr hm] at z
      simp at z
theorem ts_no : PTs X [] (RT X.K CL fl H0 (evc gv Φ .no)) := by
  refine ⟨fun pins s σ H Q I h => ?_⟩
  obtain ⟨env, O, b, ok, hf, q⟩ := h
  simp only [evc] at hf
  cases hf
  exact (pts_nil (X := X)).run pins s σ H Q I (q H (Ex.refl H))
theorem ts_so {e : E} {pe : Expr} (h : PT X pe (RT X.K CL fl H0 (ev gv Φ e))) : PTs X [pe] (RT X.K CL fl H0 (evc gv Φ (.so e))) := by
  refine ⟨fun pins s σ H Q I hw => ?_⟩
  refine (pts_one h).run pins s σ H Q I ?_
  simpa only [evc] using hw
/-- the comprehension's state: what is done, what is left -/
def LcI (K : PySem.W.Frag) (CL : Nat → Addr × List Str) (f : List T → Option (List T)) (us ts : List T) (S : AS) (D : Addr) (H1 : Hp) (i : Nat) (Hc : Hp) : Prop :=
  ∃ done rest accV, us = done ++ rest ∧ f (ts.drop i) = some rest ∧ done.length ≤ i ∧ Hc D = some (.lst accV) ∧ Reps K CL Hc done (fun b => S b ∧ b ≠ D) accV ∧ Ex H1 Hc
theorem e_lcT {vs : List Nat} {tg : Tg} {it : It} {c : EO} {e : E} {σ : L2.St} {H : Hp} {Q : VK} (hsl : (tgSlots tg).all (fun i => vs.contains i) = true)
    (h : RE X.K CL fl H0 (ev gv Φ (.lc vs tg it c e)) (at_ fl (.lc vs tg it c e)) σ H Q) :
    tLc (RI X.K CL fl H0 (evi gv Φ it) (ati fl it)) (RG X.K CL tg) (RT X.K CL (flBlk fl vs (ati fl it)) H0 (evc gv Φ c)) (RE X.K CL (flBlk fl vs (ati fl it)) H0 (ev gv Φ e) (at_ (flBlk fl vs (ati fl it)) e)) vs σ H Q := by
  obtain ⟨env, O, t, ok, hf, q⟩ := h
  simp only [ev] at hf
  obtain ⟨ts, hts, hz⟩ := bind1 hf
  obtain ⟨us, hus, rfl⟩ := map1 hz
  simp only [at_] at q
  have hsl' : ∀ j ∈ tgSlots tg, j ∈ vs := fun j hj => List.contains_iff_mem.mp (List.all_eq_true.mp hsl j hj)
  generalize hai : ati fl it = ai at q ⊢
  generalize hfb : flBlk fl vs ai = fb at q ⊢
  generalize hae : at_ fb e = ae at q ⊢
  refine ⟨env, O, ts, ok, hts, fun hlim J H1 e1 jw D hD => ?_⟩
  have hHD : H D = none := ex_none e1 hD
  have hOD : ∀ g, ¬ O g D := fun g o => absurd hHD (ok.oa g D o)
  generalize hS : SS O env σ (ae.ret.filter (fun i => !vs.contains i) ++ ai.ret) H0 ae.nw = S at q
  refine ⟨fun i m Hc => m = ts.length - i ∧ i ≤ ts.length ∧ LcI X.K CL (lcL (fun t => bindT tg t (wipeE env vs)) (fun env' => evc gv Φ c env') (fun env' => ev gv Φ e env')) us ts S D H1 i Hc,
    ⟨ts.length, by simp, Nat.zero_le _, [], us, [], rfl, by simpa using hus, Nat.le_refl _, upd_same, rfl, Ex.new hD⟩, ?_⟩
  rintro i m Hc ⟨rfl, hi, done, rest, accV, hu, hrest, hdl, hDc, hacc, hex⟩
  by_cases hlt : i < ts.length
  · right
    have hti : ts[i]? = some ts[i] := List.getElem?_eq_getElem hlt
    obtain ⟨go, yl⟩ := (jw Hc (.of_ex hex) i).1 _ hti
    refine ⟨go, fun Hn => LcI X.K CL (lcL (fun t => bindT tg t (wipeE env vs)) (fun env' => evc gv Φ c env') (fun env' => ev gv Φ e env')) us ts S D H1 (i + 1) Hn, fun H' h' => ⟨ts.length - (i + 1), by omega, rfl, hlt, h'⟩, fun x H' hy => ?_⟩
    obtain ⟨e2, rx⟩ := yl x H' hy
    rw [List.drop_eq_getElem_cons hlt] at hrest
    simp only [lcL] at hrest
    obtain ⟨env', hb, hrest⟩ := bind1 hrest
    obtain ⟨qv, hq, hrest⟩ := bind1 hrest
    refine bind_get (by rw [wipe_length, wipeE_len]; exact ok.len) hb rx fun σ' hl' hg' hw' _ => ⟨by rw [hw' vs hsl', wipe_idem], ?_⟩
    have okB : Ok X.K CL H0 fb env' σ' H' (OM O ai.ret vs (ae.ret.sum + 1) D) := by
      rw [← hfb]
      exact blk_ok _ ok hD e1 (hex.trans e2) ⟨_, e2 D _ hDc, rfl⟩ hl' hsl' hg'
    have toS : ∀ b, SS (OM O ai.ret vs (ae.ret.sum + 1) D) env' σ' ae.ret H0 ae.nw b → S b ∧ b ≠ D := fun b hb => by
      constructor
      · rw [← hS]
        refine ⟨fun g o => ?_, hb.2⟩
        by_cases hh : g ∈ ai.ret
        · exact List.mem_append_right _ hh
        · have h9 := hb.1 _ (.inl ⟨g, o, hh, rfl⟩)
          by_cases hv : g ∈ vs
          · rw [if_pos hv] at h9
            exact absurd (le_big _ _ h9) (by omega)
          · rw [if_neg hv] at h9
            refine List.mem_append_left _ (List.mem_filter.mpr ⟨h9, ?_⟩)
            cases hc : vs.contains g with
            | false => rfl
            | true => exact absurd (List.contains_iff_mem.mp hc) hv
      · intro z
        subst z
        exact absurd (le_big _ _ (hb.1 _ (.inr ⟨rfl, rfl⟩))) (Nat.lt_irrefl _)
    match qv, hq, hrest with
    | .bl true, hq, hrest =>
      obtain ⟨u, hu1, hrest⟩ := bind1 hrest
      obtain ⟨r2, hr2, rfl⟩ := map1 hrest
      refine ⟨env', _, true, okB, hq, fun H3 e3 => iteT ⟨env', _, u, okB.exd e3, hu1, fun y H4 e4 r4 _ => ?_⟩⟩
      have e5 : Ex Hc H4 := (e2.trans e3).trans e4
      have hlen : accV.length < LIM := by rw [hacc.len]; omega
      refine ⟨accV, e5 D _ hDc, lim_lt hlen, done ++ [u], r2, accV ++ [y], by rw [hu]; simp, hr2, by rw [List.length_append]; simp; exact hdl, upd_same, ?_, fun a o ha => ?_⟩
      · have k1 : Keep (fun b => S b ∧ b ≠ D) H4 (upd H4 D (.lst (accV ++ [y]))) := fun a o ha hk => by
          have hne : a ≠ D := by
            rcases hk with hk | hk
            · exact hk.2
            · intro z; subst z; rw [e5 a _ hDc] at ha; cases ha; cases hk
          rw [upd_ne hne]; exact ha
        exact ((hacc.ex e5).keep k1 fun _ z => z).append (.one ((r4.mono toS).keep k1 fun _ z => z))
      · have hne : a ≠ D := fun z => by subst z; rw [hD] at ha; cases ha
        rw [upd_ne hne]
        exact e5 a o (hex a o ha)
    | .bl false, hq, hrest =>
      refine ⟨env', _, false, okB, hq, fun H3 e3 => iteF ?_⟩
      have e5 : Ex Hc H3 := e2.trans e3
      exact ⟨done, rest, accV, hu, hrest, by omega, e5 D _ hDc, hacc.ex e5, hex.trans e5⟩
  · left
    have ei : i = ts.length := by omega
    refine ⟨(jw Hc (.of_ex hex) i).2 (by omega), ?_⟩
    rw [ei, List.drop_length] at hrest
    cases hrest
    rw [List.append_nil] at hu
    subst hu
    refine q _ Hc (e1.trans hex) ⟨D, accV, rfl, ?_, hDc, by omega, hacc⟩ fun _ _ => ⟨D, rfl, hHD⟩
    rw [← hS]
    exact ⟨fun g o => absurd o (hOD g), fun _ => ex_none ok.ex hHD⟩
end
end Sb
namespace Sb
open PySem L2
open Evl (Ex Ex.refl Ex.trans Ex.new)
section
variable {CL : Nat → Addr × List Str} {nm : Nm} {gv : Nat → Option Int} {Φ : Nat → List T → Option R}
theorem Tb.blk {X : Cx} (h : Tb X CL nm gv Φ) (s : Shared) (H : Hp) (scope : Scope) (cenv : PySem.Env) (fp : List Addr) : Tb (X.blk s H scope cenv fp) CL nm gv Φ := ⟨h.calm, h.nd, h.room, h.blt, h.gl, h.kin, h.fld, h.mkc, h.mt, h.fn⟩
def SdE (CL : Nat → Addr × List Str) (nm : Nm) (gv : Nat → Option Int) (Φ : Nat → List T → Option R) (e : E) : Prop := ∀ (X : Cx), Tb X CL nm gv Φ → ∀ pe, chk nm X.N X.env.scope e pe = true → ∀ fl H0,
  PE X pe (RE X.K CL fl H0 (ev gv Φ e) (at_ fl e)) ∧ (tOk e = true → PT X pe (RT X.K CL fl H0 (ev gv Φ e))) ∧
  (tOk e = true → ∀ op pb rest pos, pe = .BoolOp op (pb :: rest) pos → PW X pe (RT X.K CL fl H0 (ev gv Φ e)))
def SdA (CL : Nat → Addr × List Str) (nm : Nm) (gv : Nat → Option Int) (Φ : Nat → List T → Option R) (es : EL) : Prop := ∀ (X : Cx), Tb X CL nm gv Φ → ∀ pes, chks nm X.N X.env.scope es pes = true → ∀ fl H0,
  PA X pes (RA X.K CL fl H0 (evs gv Φ es) (ats fl es)) ∧ pes.all (fun e => !isStar e) = true
def SdO (CL : Nat → Addr × List Str) (nm : Nm) (gv : Nat → Option Int) (Φ : Nat → List T → Option R) (o : EO) : Prop := ∀ (X : Cx), Tb X CL nm gv Φ →
  (∀ pe, chko nm X.N X.env.scope o pe = true → ∀ fl H0, PO X pe (RO X.K CL fl H0 (evo gv Φ o))) ∧
  (∀ pes, chkif nm X.N X.env.scope o pes = true → ∀ fl H0, PTs X pes (RT X.K CL fl H0 (evc gv Φ o)))
def SdI (CL : Nat → Addr × List Str) (nm : Nm) (gv : Nat → Option Int) (Φ : Nat → List T → Option R) (it : It) : Prop := ∀ (X : Cx), Tb X CL nm gv Φ → ∀ tg pe, chki nm X.N X.env.scope it tg pe = true → ∀ fl H0,
  PI X tg pe (RI X.K CL fl H0 (evi gv Φ it) (ati fl it)) ∧ isSet pe = false
/-- from a value's rule, where the expression is no operator of truth -/
theorem sd_plain {X : Cx} {e : E} {pe : Expr} {fl : Fl} {H0 : Hp} (h : PE X pe (RE X.K CL fl H0 (ev gv Φ e) (at_ fl e))) (ho : isOp pe = false) :
    PE X pe (RE X.K CL fl H0 (ev gv Φ e) (at_ fl e)) ∧ (tOk e = true → PT X pe (RT X.K CL fl H0 (ev gv Φ e))) ∧ (tOk e = true → ∀ op pb rest pos, pe = .BoolOp op (pb :: rest) pos → PW X pe (RT X.K CL fl H0 (ev gv Φ e))) :=
  ⟨h, fun _ => t_val h ho, fun _ op pb rest pos e => by subst e; cases ho⟩
theorem gl_ok {X : Cx} {x : Str} (h : glB X.env.scope x = true) : Gl X x := by
  unfold glB at h
  exact (of_decide_eq_true (p := X.env.scope.names.lookup x = some .globalImplicit) h)
theorem sd_bin {op : Bop} {a b : E} (ia : SdE CL nm gv Φ a) (ib : SdE CL nm gv Φ b) : SdE CL nm gv Φ (.bin op a b) := by
  intro X hT pe h fl H0
  cases pe with
  | BinOp pa po pb pos =>
    simp only [chk, Bool.and_eq_true] at h
    obtain ⟨⟨h1, h2⟩, h3⟩ := h
    have e := opEq_eq h1
    subst e
    exact sd_plain (e_bin (ia X hT pa h2 fl H0).1 (ib X hT pb h3 fl H0).1) rfl
  | _ => cases h
theorem sd_var {i : Nat} : SdE CL nm gv Φ (.var i) := by
  intro X hT pe h fl H0
  cases pe with
  | Name x pos =>
    simp only [chk, Bool.and_eq_true, decide_eq_true_eq] at h
    obtain ⟨⟨h1, h2⟩, h3⟩ := h
    obtain ⟨n1, n2, _⟩ := name_ok h3
    exact sd_plain (e_var h1 (vis_ok h2) n1 n2) rfl
  | _ => cases h
theorem sd_cint {i : Int} : SdE CL nm gv Φ (.cint i) := by
  intro X hT pe h fl H0
  cases pe with
  | Constant c k pos => cases c with
    | int j =>
      simp only [chk, decide_eq_true_eq] at h
      subst h
      exact sd_plain e_cint rfl
    | _ => cases h
  | _ => cases h
theorem sd_cbl {i : Bool} : SdE CL nm gv Φ (.cbl i) := by
  intro X hT pe h fl H0
  cases pe with
  | Constant c k pos => cases c with
    | bool j =>
      simp only [chk, decide_eq_true_eq] at h
      subst h
      exact sd_plain e_cbl rfl
    | _ => cases h
  | _ => cases h
theorem sd_cnon : SdE CL nm gv Φ .cnon := by
  intro X hT pe h fl H0
  cases pe with
  | Constant c k pos => cases c with
    | none => exact sd_plain e_cnon rfl
    | _ => cases h
  | _ => cases h
theorem sd_cstr {i : String} : SdE CL nm gv Φ (.cstr i) := by
  intro X hT pe h fl H0
  cases pe with
  | Constant c k pos => cases c with
    | str j =>
      simp only [chk, decide_eq_true_eq] at h
      subst h
      exact sd_plain e_cstr rfl
    | _ => cases h
  | _ => cases h
theorem sd_glob {g : Nat} : SdE CL nm gv Φ (.glob g) := by
  intro X hT pe h fl H0
  cases pe with
  | Name x pos =>
    simp only [chk, Bool.and_eq_true, decide_eq_true_eq] at h
    obtain ⟨⟨h1, h2⟩, h3⟩ := h
    exact sd_plain (e_glob hT h1 (gl_ok h2) (name_ok h3).1) rfl
  | _ => cases h
theorem sd_neg {a : E} (ia : SdE CL nm gv Φ a) : SdE CL nm gv Φ (.neg a) := by
  intro X hT pe h fl H0
  cases pe with
  | UnaryOp op pa pos => cases op with
    | USub => exact sd_plain (e_neg (ia X hT pa (by simpa only [chk] using h) fl H0).1) rfl
    | _ => cases h
  | _ => cases h
theorem sd_not {a : E} (ia : SdE CL nm gv Φ a) : SdE CL nm gv Φ (.not a) := by
  intro X hT pe h fl H0
  cases pe with
  | UnaryOp op pa pos => cases op with
    | Not =>
      have h' : chk nm X.N X.env.scope a pa = true := by simpa only [chk] using h
      exact ⟨e_not (ia X hT pa h' fl H0).1, fun ht => t_not ((ia X hT pa h' fl H0).2.1 (by simpa [tOk] using ht)), fun _ op pb rest pos e => nomatch e⟩
    | _ => cases h
  | _ => cases h
theorem sd_and {a b : E} (ia : SdE CL nm gv Φ a) (ib : SdE CL nm gv Φ b) : SdE CL nm gv Φ (.and a b) := by
  intro X hT pe h fl H0
  cases pe with
  | BoolOp op vs pos => cases op with
    | And => cases vs with
      | nil => cases h
      | cons pa vs => cases vs with
        | nil => cases h
        | cons pb rest =>
          simp only [chk, Bool.and_eq_true] at h
          obtain ⟨h1, h2⟩ := h
          have ga := ia X hT pa h1 fl H0
          have key : PE X (.BoolOp .And (pb :: rest) pos) (RE X.K CL fl H0 (ev gv Φ b) (at_ fl b)) ∧ (tOk b = true → PW X (.BoolOp .And (pb :: rest) pos) (RT X.K CL fl H0 (ev gv Φ b))) := by
            cases rest with
            | nil =>
              have gb := ib X hT pb (by simpa using h2) fl H0
              exact ⟨pe_one gb.1, fun ht => pw_and1 (gb.2.1 ht)⟩
            | cons c rest =>
              have gb := ib X hT (.BoolOp .And (pb :: c :: rest) pos) (by simpa using h2) fl H0
              exact ⟨gb.1, fun ht => gb.2.2 ht _ _ _ _ rfl⟩
          have kw : tOk (.and a b) = true → PW X (.BoolOp .And (pa :: pb :: rest) pos) (RT X.K CL fl H0 (ev gv Φ (.and a b))) := fun ht => by
            simp only [tOk, Bool.and_eq_true] at ht
            exact w_and (ga.2.1 ht.1) (key.2 ht.2)
          exact ⟨e_and ga.1 key.1, fun ht => (kw ht).pt, fun ht _ _ _ _ _ => kw ht⟩
    | _ => cases h
  | _ => cases h
theorem sd_or {a b : E} (ia : SdE CL nm gv Φ a) (ib : SdE CL nm gv Φ b) : SdE CL nm gv Φ (.or a b) := by
  intro X hT pe h fl H0
  cases pe with
  | BoolOp op vs pos => cases op with
    | Or => cases vs with
      | nil => cases h
      | cons pa vs => cases vs with
        | nil => cases h
        | cons pb rest =>
          simp only [chk, Bool.and_eq_true] at h
          obtain ⟨h1, h2⟩ := h
          have ga := ia X hT pa h1 fl H0
          have key : PE X (.BoolOp .Or (pb :: rest) pos) (RE X.K CL fl H0 (ev gv Φ b) (at_ fl b)) ∧ (tOk b = true → PW X (.BoolOp .Or (pb :: rest) pos) (RT X.K CL fl H0 (ev gv Φ b))) := by
            cases rest with
            | nil =>
              have gb := ib X hT pb (by simpa using h2) fl H0
              exact ⟨pe_one gb.1, fun ht => pw_or1 (gb.2.1 ht)⟩
            | cons c rest =>
              have gb := ib X hT (.BoolOp .Or (pb :: c :: rest) pos) (by simpa using h2) fl H0
              exact ⟨gb.1, fun ht => gb.2.2 ht _ _ _ _ rfl⟩
          have kw : tOk (.or a b) = true → PW X (.BoolOp .Or (pa :: pb :: rest) pos) (RT X.K CL fl H0 (ev gv Φ (.or a b))) := fun ht => by
            simp only [tOk, Bool.and_eq_true] at ht
            exact w_or (ga.2.1 ht.1) (key.2 ht.2)
          exact ⟨e_or ga.1 key.1, fun ht => (kw ht).pt, fun ht _ _ _ _ _ => kw ht⟩
    | _ => cases h
  | _ => cases h
theorem not_false {b : Bool} (h : (!b) = true) : b = false := by simpa using h
theorem sd_cmp {op : Cop} {a b : E} (ia : SdE CL nm gv Φ a) (ib : SdE CL nm gv Φ b) : SdE CL nm gv Φ (.cmp op a b) := by
  intro X hT pe h fl H0
  cases pe with
  | Compare pa ops pes pos =>
    match ops, pes, h with
    | [po], [pb], h =>
      simp only [chk, Bool.and_eq_true] at h
      obtain ⟨⟨⟨h1, h2⟩, h3⟩, h4⟩ := h
      have e := cmpEq_eq h1
      subst e
      have ga := (ia X hT pa h2 fl H0).1
      have gb := (ib X hT pb h3 fl H0).1
      exact ⟨e_cmp hT ga gb (not_false h4), fun _ => t_cmp hT ga gb (not_false h4), fun _ op pb rest pos e => nomatch e⟩
    | [], _, h => cases h
    | [_], [], h => cases h
    | [_], _ :: _ :: _, h => cases h
    | _ :: _ :: _, _, h => cases h
  | _ => cases h
theorem ordC_ok {op : Cop} (h : ordC op = true) : op ≠ .mem ∧ op ≠ .nmem := by
  cases op <;> first | cases h; done | exact ⟨(fun z => nomatch z), (fun z => nomatch z)⟩
theorem sd_chn {op op' : Cop} {a b c : E} (ia : SdE CL nm gv Φ a) (ib : SdE CL nm gv Φ b) (ic : SdE CL nm gv Φ c) : SdE CL nm gv Φ (.chn op op' a b c) := by
  intro X hT pe h fl H0
  cases pe with
  | Compare pa ops pes pos =>
    match ops, pes, h with
    | [po, po'], [pb, pc], h =>
      simp only [chk, Bool.and_eq_true] at h
      obtain ⟨⟨⟨⟨⟨⟨⟨h1, h2⟩, h3⟩, h4⟩, h5⟩, h6⟩, h7⟩, h8⟩ := h
      have e := cmpEq_eq h1
      have e' := cmpEq_eq h2
      subst e e'
      have ga := (ia X hT pa h3 fl H0).1
      have gb := (ib X hT pb h4 fl H0).1
      have gc := (ic X hT pc h5 fl H0).1
      obtain ⟨o1, o2⟩ := ordC_ok h7
      obtain ⟨o3, o4⟩ := ordC_ok h8
      exact ⟨e_chn hT ga gb gc (not_false h6) o1 o2 o3 o4, fun _ => t_chn hT ga gb gc (not_false h6) o1 o2 o3 o4, fun _ op pb rest pos e => nomatch e⟩
    | [], _, h => cases h
    | [_], _, h => cases h
    | [_, _], [], h => cases h
    | [_, _], [_], h => cases h
    | [_, _], _ :: _ :: _ :: _, h => cases h
    | _ :: _ :: _ :: _, _, h => cases h
  | _ => cases h
theorem sd_ite {c a b : E} (ic : SdE CL nm gv Φ c) (ia : SdE CL nm gv Φ a) (ib : SdE CL nm gv Φ b) : SdE CL nm gv Φ (.ite c a b) := by
  intro X hT pe h fl H0
  cases pe with
  | IfExp pc pa pb pos =>
    simp only [chk, Bool.and_eq_true] at h
    obtain ⟨⟨⟨h0, h1⟩, h2⟩, h3⟩ := h
    exact ⟨e_ite ((ic X hT pc h1 fl H0).2.1 h0) (ia X hT pa h2 fl H0).1 (ib X hT pb h3 fl H0).1, (fun z => nomatch z), (fun z => nomatch z)⟩
  | _ => cases h
theorem sd_tup {es : EL} (ia : SdA CL nm gv Φ es) : SdE CL nm gv Φ (.tup es) := by
  intro X hT pe h fl H0
  cases pe with
  | Tuple pes k pos => exact sd_plain (e_tup (ia X hT pes (by simpa only [chk] using h) fl H0).1) rfl
  | _ => cases h
theorem sd_lst {es : EL} (ia : SdA CL nm gv Φ es) : SdE CL nm gv Φ (.lst es) := by
  intro X hT pe h fl H0
  cases pe with
  | List pes pos => exact sd_plain (e_lst (ia X hT pes (by simpa only [chk] using h) fl H0).1) rfl
  | _ => cases h
theorem sd_sub {a i : E} (ia : SdE CL nm gv Φ a) (ii : SdE CL nm gv Φ i) : SdE CL nm gv Φ (.sub a i) := by
  intro X hT pe h fl H0
  cases pe with
  | Subscript pa pi pos =>
    have h' : chk nm X.N X.env.scope a pa = true ∧ chk nm X.N X.env.scope i pi = true ∧ isSlice pi = false := by
      simp only [chk, Bool.and_eq_true] at h
      exact ⟨h.1.1, h.1.2, not_false h.2⟩
    exact sd_plain (e_sub hT (ia X hT pa h'.1 fl H0).1 (ii X hT pi h'.2.1 fl H0).1 h'.2.2) rfl
  | _ => cases h
theorem sd_cut {a : E} {lo hi : EO} (ia : SdE CL nm gv Φ a) (il : SdO CL nm gv Φ lo) (ih : SdO CL nm gv Φ hi) : SdE CL nm gv Φ (.cut a lo hi) := by
  intro X hT pe h fl H0
  cases pe with
  | Subscript pa pi pos => cases pi with
    | Slice plo phi pst p2 => cases pst with
      | none =>
        simp only [chk, Bool.and_eq_true] at h
        exact sd_plain (e_cut (ia X hT pa h.1.1 fl H0).1 ((il X hT).1 plo h.1.2 fl H0) ((ih X hT).1 phi h.2 fl H0)) rfl
      | some _ => cases h
    | _ => cases h
  | _ => cases h
theorem sd_csb {f : Nat} {es : EL} {kk : Int} (ia : SdA CL nm gv Φ es) : SdE CL nm gv Φ (.csb f es kk) := by
  intro X hT pe h fl H0
  cases pe with
  | Subscript pa pi pos => cases pa with
    | Call fn pes kws p2 => cases fn with
      | Name x p => cases kws with
        | nil => cases pi with
          | Constant c jj p3 => cases c with
            | int j =>
              simp only [chk, Bool.and_eq_true, decide_eq_true_eq] at h
              obtain ⟨⟨⟨⟨⟨⟨h0, h1⟩, h2⟩, h3⟩, h4⟩, h5⟩, h6⟩ := h
              subst h5
              obtain ⟨g1, g2⟩ := ia X hT pes h4 fl H0
              cases pes with
              | nil => cases h6
              | cons pe pes =>
                rw [List.all_cons, Bool.and_eq_true] at g2
                exact sd_plain (e_csb hT h0 h1 (gl_ok h2) (name_ok h3).1 g1 (not_false g2.1) g2.2) rfl
            | _ => cases h
          | _ => cases h
        | cons _ _ => first | cases h | (simp [chk, chki] at h; done)
      | _ => cases h
    | _ => cases h
  | _ => cases h
theorem sd_stp {a k : E} (ia : SdE CL nm gv Φ a) (ik : SdE CL nm gv Φ k) : SdE CL nm gv Φ (.stp a k) := by
  intro X hT pe h fl H0
  cases pe with
  | Subscript pa pi pos => cases pi with
    | Slice plo phi pst p2 => cases plo with
      | none => cases phi with
        | none => cases pst with
          | some pk =>
            simp only [chk, Bool.and_eq_true] at h
            exact sd_plain (e_stp (ia X hT pa h.1 fl H0).1 (ik X hT pk h.2 fl H0).1) rfl
          | none => cases h
        | some _ => cases h
      | some _ => cases h
    | _ => cases h
  | _ => cases h
theorem sd_rev {a : E} (ia : SdE CL nm gv Φ a) : SdE CL nm gv Φ (.rev a) := by
  intro X hT pe h fl H0
  cases pe with
  | Subscript pa pi pos => cases pi with
    | Slice plo phi pst p2 => cases plo with
      | none => cases phi with
        | none => cases pst with
          | some st => cases st with
            | UnaryOp op q p4 => cases op with
              | USub => cases q with
                | Constant c k p3 => cases c with
                  | int j =>
                    simp only [chk, Bool.and_eq_true, decide_eq_true_eq] at h
                    obtain ⟨h1, rfl⟩ := h
                    exact sd_plain (e_rev (ia X hT pa h1 fl H0).1) rfl
                  | _ => cases h
                | _ => cases h
              | _ => cases h
            | _ => cases h
          | none => cases h
        | some _ => cases h
      | some _ => cases h
    | _ => cases h
  | _ => cases h
theorem sd_call {f : Nat} {es : EL} (ia : SdA CL nm gv Φ es) : SdE CL nm gv Φ (.call f es) := by
  intro X hT pe h fl H0
  cases pe with
  | Call fn pes kws pos => cases fn with
    | Name x p => cases kws with
      | nil =>
        simp only [chk, Bool.and_eq_true, decide_eq_true_eq] at h
        obtain ⟨⟨⟨⟨h0, h1⟩, h2⟩, h3⟩, h4⟩ := h
        obtain ⟨g1, g2⟩ := ia X hT pes h4 fl H0
        cases pes with
        | nil =>
          cases es with
          | nil => exact sd_plain (e_call0 hT h0 h1 (gl_ok h2) (name_ok h3).1) rfl
          | cons _ _ => simp [chks] at h4
        | cons pe pes =>
          rw [List.all_cons, Bool.and_eq_true] at g2
          exact sd_plain (e_call hT h0 h1 (gl_ok h2) (name_ok h3).1 g1 (not_false g2.1) g2.2) rfl
      | cons _ _ => first | cases h | (simp [chk, chki] at h; done)
    | _ => cases h
  | _ => cases h
theorem sd_cmw {op : Cop} {f : Nat} {es : EL} {b : E} (ia : SdA CL nm gv Φ es) (ib : SdE CL nm gv Φ b) : SdE CL nm gv Φ (.cmw op f es b) := by
  intro X hT pe h fl H0
  cases pe with
  | Compare pa ops pbs pos =>
    cases pa with
    | Call fn pes kws p2 => cases fn with
      | Name x p => cases kws with
        | nil =>
          match ops, pbs, h with
          | [po], [pb], h =>
            simp only [chk, Bool.and_eq_true, decide_eq_true_eq] at h
            obtain ⟨⟨⟨⟨⟨h1, ⟨⟨⟨h0, h2⟩, h3⟩, h4⟩, h5⟩, h6⟩, h7⟩, h8⟩, h9⟩ := h
            have e := cmpEq_eq h1
            subst e
            obtain ⟨g1, g2⟩ := ia X hT pes h5 fl H0
            have gb := (ib X hT pb h6 fl H0).1
            obtain ⟨m1, m2⟩ := ordC_ok h8
            cases pes with
            | nil => cases h9
            | cons pe pes =>
              rw [List.all_cons, Bool.and_eq_true] at g2
              exact ⟨e_cmw hT h0 h2 (gl_ok h3) (name_ok h4).1 g1 (not_false g2.1) g2.2 gb (not_false h7) m1 m2, fun _ => t_cmw hT h0 h2 (gl_ok h3) (name_ok h4).1 g1 (not_false g2.1) g2.2 gb (not_false h7) m1 m2, fun _ op pb rest pos e => nomatch e⟩
          | [], _, h => cases h
          | [_], [], h => cases h
          | [_], _ :: _ :: _, h => cases h
          | _ :: _ :: _, _, h => cases h
        | cons _ _ => first | cases h | (simp [chk, chki] at h; done)
      | _ => cases h
    | _ => cases h
  | _ => cases h
theorem sd_blt {b : Bi} {es : EL} (hb : b ≠ .lrange) (ia : SdA CL nm gv Φ es) : SdE CL nm gv Φ (.blt b es) := by
  intro X hT pe h fl H0
  cases pe with
  | Call fn pes kws pos => cases fn with
    | Name x p => cases kws with
      | nil =>
        have h' : (b.nm = x ∧ glB X.env.scope x = true ∧ chks nm X.N X.env.scope es pes = true) ∧ (!pes.isEmpty) = true := by
          cases b <;> first | exact absurd rfl hb | (simp only [chk, Bool.and_eq_true, decide_eq_true_eq] at h; exact ⟨⟨h.1.1.1.1, h.1.1.2, h.1.2⟩, h.2⟩)
        obtain ⟨⟨h1, h2, h4⟩, h5⟩ := h'
        obtain ⟨g1, g2⟩ := ia X hT pes h4 fl H0
        subst h1
        cases pes with
        | nil => cases h5
        | cons pe pes =>
          rw [List.all_cons, Bool.and_eq_true] at g2
          exact sd_plain (e_blt hT hb (gl_ok h2) g1 (not_false g2.1) g2.2) rfl
      | cons _ _ => cases b <;> cases h
    | _ => cases b <;> cases h
  | _ => cases b <;> cases h
theorem sd_lrg {e : E} (ia : SdE CL nm gv Φ e) : SdE CL nm gv Φ (.lrg e) := by
  intro X hT pe h fl H0
  cases pe with
  | Call fn pes kws pos => cases fn with
    | Name x p => cases kws with
      | nil =>
        match pes, h with
        | [.Call (.Name y p2) [pe] [] p3], h =>
          simp only [chk, Bool.and_eq_true, decide_eq_true_eq] at h
          obtain ⟨⟨⟨⟨⟨h1, h2⟩, h3⟩, h4⟩, h5⟩, h6⟩ := h
          subst h1 h2
          exact sd_plain (e_lrange hT (gl_ok h3) (gl_ok h4) (ia X hT pe h5 fl H0).1 (not_false h6)) rfl
      | cons _ _ => first | cases h | (simp [chk, chki] at h; done)
    | _ => cases h
  | _ => cases h
theorem sd_sst {e : E} (ia : SdE CL nm gv Φ e) : SdE CL nm gv Φ (.sst e) := by
  intro X hT pe h fl H0
  cases pe with
  | Call fn pes kws pos => cases fn with
    | Name x p => cases kws with
      | nil =>
        match pes, h with
        | [.Call (.Name y p2) [pe] [] p3], h =>
          simp only [chk, Bool.and_eq_true, decide_eq_true_eq] at h
          obtain ⟨⟨⟨⟨⟨h1, h2⟩, h3⟩, h4⟩, h5⟩, h6⟩ := h
          subst h1 h2
          exact sd_plain (e_sst hT (gl_ok h3) (gl_ok h4) (ia X hT pe h5 fl H0).1 (not_false h6)) rfl
      | cons _ _ => first | cases h | (simp [chk, chki] at h; done)
    | _ => cases h
  | _ => cases h
theorem sd_lzp {a b : E} (ia : SdE CL nm gv Φ a) (ib : SdE CL nm gv Φ b) : SdE CL nm gv Φ (.lzp a b) := by
  intro X hT pe h fl H0
  cases pe with
  | Call fn pes kws pos => cases fn with
    | Name x p => cases kws with
      | nil =>
        match pes, h with
        | [.Call (.Name y p2) [pa, pb] [] p3], h =>
          simp only [chk, Bool.and_eq_true, decide_eq_true_eq] at h
          obtain ⟨⟨⟨⟨⟨⟨⟨h1, h2⟩, h3⟩, h4⟩, h5⟩, h6⟩, h7⟩, h8⟩ := h
          subst h1 h2
          exact sd_plain (e_lzp hT (gl_ok h3) (gl_ok h4) (ia X hT pa h5 fl H0).1 (ib X hT pb h7 fl H0).1 (not_false h6) (not_false h8)) rfl
      | cons _ _ => first | cases h | (simp [chk, chki] at h; done)
    | _ => cases h
  | _ => cases h
theorem sd_dsp {a b : E} (ia : SdE CL nm gv Φ a) (ib : SdE CL nm gv Φ b) : SdE CL nm gv Φ (.dsp a b) := by
  intro X hT pe h fl H0
  cases pe with
  | Dict ks vs pos =>
    match ks, vs, h with
    | [some pa], [pb], h =>
      simp only [chk, Bool.and_eq_true] at h
      exact sd_plain (e_dsp hT (ia X hT pa h.1 fl H0).1 (ib X hT pb h.2 fl H0).1) rfl
  | _ => cases h
theorem sd_isi {a : E} {k : Kd} (ia : SdE CL nm gv Φ a) : SdE CL nm gv Φ (.isi a k) := by
  intro X hT pe h fl H0
  cases pe with
  | Call fn pes kws pos => cases fn with
    | Name x p => cases kws with
      | nil =>
        match pes, h with
        | [pa, .Name y p2], h =>
          simp only [chk, Bool.and_eq_true, decide_eq_true_eq] at h
          obtain ⟨⟨⟨⟨⟨⟨h1, h2⟩, h3⟩, h4⟩, h5⟩, h6⟩, h7⟩ := h
          subst h1
          obtain ⟨n1, _, n3⟩ := name_ok h7
          have old : ∀ k : Kd, k.nm ≠ "" → k.nm = y → PE X (.Call (.Name "isinstance" p) [pa, .Name y p2] [] pos) (RE X.K CL fl H0 (ev gv Φ (.isi a k)) (at_ fl (.isi a k))) := fun k hk he => by
            subst he
            exact e_isi hT (gl_ok h2) (gl_ok h6) hk n1 n3 (ia X hT pa h3 fl H0).1 (not_false h4)
          refine sd_plain ?_ rfl
          cases k with
          | cls c acc rej =>
            simp only [Bool.and_eq_true, decide_eq_true_eq, List.all_eq_true] at h5
            exact e_isc hT (gl_ok h2) h5.1.1 (gl_ok h6) n1 (fun d hd => h5.1.2 d (List.contains_iff_mem.mp hd)) (fun d hd => h5.2 d (List.contains_iff_mem.mp hd)) (ia X hT pa h3 fl H0).1 (not_false h4)
          | _ => exact old _ (by decide) (of_decide_eq_true h5)
      | cons _ _ => first | cases h | (simp [chk, chki] at h; done)
    | _ => cases h
  | _ => cases h
theorem sd_dnew : SdE CL nm gv Φ .dnew := by
  intro X hT pe h fl H0
  cases pe with
  | Dict ks vs pos => cases ks with
    | nil => cases vs with
      | nil => exact sd_plain e_dnew rfl
      | cons _ _ => cases h
    | cons _ _ => cases h
  | _ => cases h
theorem sd_idx {a b : E} (ia : SdE CL nm gv Φ a) (ib : SdE CL nm gv Φ b) : SdE CL nm gv Φ (.idx a b) := by
  intro X hT pe h fl H0
  cases pe with
  | Call fn pes kws pos => cases fn with
    | Attribute pa m ap => cases kws with
      | nil =>
        match pes, h with
        | [pb], h =>
          simp only [chk, Bool.and_eq_true, decide_eq_true_eq] at h
          obtain ⟨⟨⟨⟨⟨h1, h2⟩, h3⟩, h4⟩, h5⟩, h6⟩ := h
          subst h1
          exact sd_plain (e_idx hT (ia X hT pa h2 fl H0).1 (ib X hT pb h3 fl H0).1 (not_false h4) h5 h6) rfl
      | cons _ _ => first | cases h | (simp [chk, chki] at h; done)
    | _ => cases h
  | _ => cases h
theorem sd_cnt {a b : E} (ia : SdE CL nm gv Φ a) (ib : SdE CL nm gv Φ b) : SdE CL nm gv Φ (.cnt a b) := by
  intro X hT pe h fl H0
  cases pe with
  | Call fn pes kws pos => cases fn with
    | Attribute pa m ap => cases kws with
      | nil =>
        match pes, h with
        | [pb], h =>
          simp only [chk, Bool.and_eq_true, decide_eq_true_eq] at h
          obtain ⟨⟨⟨⟨⟨h1, h2⟩, h3⟩, h4⟩, h5⟩, h6⟩ := h
          subst h1
          exact sd_plain (e_cnt hT (ia X hT pa h2 fl H0).1 (ib X hT pb h3 fl H0).1 (not_false h4) h5 h6) rfl
      | cons _ _ => first | cases h | (simp [chk, chki] at h; done)
    | _ => cases h
  | _ => cases h
theorem sd_fld {a : E} {c : Nat} (ia : SdE CL nm gv Φ a) : SdE CL nm gv Φ (.fld a c) := by
  intro X hT pe h fl H0
  cases pe with
  | Attribute pa f pos =>
    simp only [chk, Bool.and_eq_true, decide_eq_true_eq] at h
    obtain ⟨⟨⟨h1, h2⟩, h3⟩, h4⟩ := h
    exact sd_plain (e_fld hT (ia X hT pa h3 fl H0).1 h1 h2 h4) rfl
  | _ => cases h
theorem sd_shw {a : E} {es : EL} (ia : SdE CL nm gv Φ a) (ie : SdA CL nm gv Φ es) : SdE CL nm gv Φ (.shw a es) := by
  intro X hT pe h fl H0
  cases pe with
  | Call fn pes kws pos => cases fn with
    | Attribute pa m ap => cases kws with
      | nil =>
        simp only [chk, Bool.and_eq_true, decide_eq_true_eq] at h
        obtain ⟨⟨⟨⟨⟨⟨h1, h2⟩, h3⟩, h4⟩, h5⟩, h6⟩, h7⟩ := h
        subst h1
        obtain ⟨g1, g2⟩ := ie X hT pes h4 fl H0
        cases pes with
        | nil => cases h5
        | cons pe pes =>
          rw [List.all_cons, Bool.and_eq_true] at g2
          exact sd_plain (e_shw hT (ia X hT pa h2 fl H0).1 h3 g1 (not_false g2.1) g2.2 h6 h7) rfl
      | cons _ _ => first | cases h | (simp [chk, chki] at h; done)
    | _ => cases h
  | _ => cases h
theorem sd_mk {c : Nat} {es : EL} (ie : SdA CL nm gv Φ es) : SdE CL nm gv Φ (.mk c es) := by
  intro X hT pe h fl H0
  cases pe with
  | Call fn pes kws pos => cases fn with
    | Name x p => cases kws with
      | nil =>
        simp only [chk, Bool.and_eq_true, decide_eq_true_eq] at h
        obtain ⟨⟨⟨⟨h0, h1⟩, h2⟩, h3⟩, h4⟩ := h
        obtain ⟨g1, g2⟩ := ie X hT pes h4 fl H0
        cases pes with
        | nil =>
          cases es with
          | nil => exact sd_plain (e_mk0 hT h0 h1 (gl_ok h2) (name_ok h3).1) rfl
          | cons e es => cases h4
        | cons pe pes =>
          rw [List.all_cons, Bool.and_eq_true] at g2
          refine sd_plain (e_mk hT h0 h1 (gl_ok h2) (name_ok h3).1 g1 (fun env ts ht z => ?_) (not_false g2.1) g2.2) rfl
          cases es with
          | nil => cases h4
          | cons e es =>
            rw [evs] at ht
            obtain ⟨t, _, ht⟩ := bind1 ht
            obtain ⟨us, _, ht⟩ := map1 ht
            rw [z] at ht; cases ht
      | cons _ _ => first | cases h | (simp [chk, chki] at h; done)
    | _ => cases h
  | _ => cases h
theorem lookAll_map (N : List Str) (vs : List Nat) : (lookAll N vs).map (·.2) = vs := by
  unfold lookAll
  rw [List.map_map]
  exact List.map_id' vs
theorem sd_lc {vs : List Nat} {tg : Tg} {it : It} {c : EO} {e : E} (ii : SdI CL nm gv Φ it) (ic : SdO CL nm gv Φ c) (ie : SdE CL nm gv Φ e) : SdE CL nm gv Φ (.lc vs tg it c e) := by
  intro X hT pe h fl H0
  cases pe with
  | ListComp pe gs scope pos =>
    match gs, h with
    | [⟨ptg, pit, pifs, as⟩], h =>
      simp only [chk, Bool.and_eq_true, decide_eq_true_eq] at h
      obtain ⟨⟨⟨⟨⟨⟨h1, h2⟩, h3⟩, h4⟩, h5⟩, h6⟩, h7⟩ := h
      subst h1
      obtain ⟨gi, gs⟩ := ii X hT ptg pit h2 fl H0
      have key := pe_lc (X := X) (pos := pos) (own := lookAll X.N vs) (g := RG X.K CL tg) (tt := RT X.K CL (flBlk fl vs (ati fl it)) H0 (evc gv Φ c)) (te := RE X.K CL (flBlk fl vs (ati fl it)) H0 (ev gv Φ e) (at_ (flBlk fl vs (ati fl it)) e))
        hT.calm hT.nd gi (blkOk_by h3)
        (fun s H C cl fp => g_tg (X := X.blk s H scope (compEnvC scope cl C X.env) fp) hT.nd hT.calm h4 (fun x hx => hx))
        (fun s H C cl fp => (ic (X.blk s H scope (compEnvC scope cl C X.env) fp) (hT.blk s H scope _ fp)).2 pifs h6 _ H0)
        (fun s H C cl fp => (ie (X.blk s H scope (compEnvC scope cl C X.env) fp) (hT.blk s H scope _ fp) pe h7 _ H0).1)
        (set_ok gs)
      rw [lookAll_map] at key
      exact sd_plain ⟨fun pins s σ H Q I hw => key.run pins s σ H Q I (e_lcT (X := X) h5 hw)⟩ rfl
    | [], h => cases h
    | _ :: _ :: _, h => simp [chk] at h
  | _ => cases h
theorem sd_anil : SdA CL nm gv Φ .nil := by
  intro X hT pes h fl H0
  cases pes with
  | nil => exact ⟨a_nil, rfl⟩
  | cons _ _ => cases h
theorem sd_acons {e : E} {es : EL} (ie : SdE CL nm gv Φ e) (ia : SdA CL nm gv Φ es) : SdA CL nm gv Φ (.cons e es) := by
  intro X hT pes h fl H0
  cases pes with
  | nil => cases h
  | cons pe pes =>
    simp only [chks, Bool.and_eq_true] at h
    obtain ⟨g1, g2⟩ := ia X hT pes h.2 fl H0
    refine ⟨a_cons (ie X hT pe h.1.1 fl H0).1 g1 (not_false h.1.2), ?_⟩
    rw [List.all_cons, Bool.and_eq_true]
    exact ⟨h.1.2, g2⟩
theorem sd_ono : SdO CL nm gv Φ .no := by
  intro X hT
  refine ⟨fun pe h fl H0 => ?_, fun pes h fl H0 => ?_⟩
  · cases pe with
    | none => exact o_no
    | some _ => cases h
  · cases pes with
    | nil => exact ts_no
    | cons _ _ => cases h
theorem sd_oso {e : E} (ie : SdE CL nm gv Φ e) : SdO CL nm gv Φ (.so e) := by
  intro X hT
  refine ⟨fun pe h fl H0 => ?_, fun pes h fl H0 => ?_⟩
  · cases pe with
    | none => cases h
    | some pe => exact o_so (ie X hT pe (by simpa only [chko] using h) fl H0).1
  · match pes, h with
    | [pe], h =>
      simp only [chkif, Bool.and_eq_true] at h
      exact ts_so ((ie X hT pe h.2 fl H0).2.1 h.1)
    | [], h => cases h
    | _ :: _ :: _, h => cases h
theorem sd_iseq {e : E} (ie : SdE CL nm gv Φ e) : SdI CL nm gv Φ (.seq e) := by
  intro X hT tg pe h fl H0
  simp only [chki, Bool.and_eq_true] at h
  exact ⟨i_seq (ie X hT pe h.1 fl H0).1, not_false h.2⟩
theorem sd_irng1 {e : E} (ie : SdE CL nm gv Φ e) : SdI CL nm gv Φ (.rng1 e) := by
  intro X hT tg pe h fl H0
  cases pe with
  | Call fn pes kws pos => cases fn with
    | Name x p =>
        match pes, kws, h with
        | [pe], [], h =>
          simp only [chki, Bool.and_eq_true, decide_eq_true_eq] at h
          obtain ⟨⟨⟨rfl, h2⟩, h3⟩, h4⟩ := h
          exact ⟨i_rng1 hT (gl_ok h2) (ie X hT pe h3 fl H0).1 (not_false h4), rfl⟩
        | [], _, h => cases h
        | [_], _ :: _, h => cases h
        | _ :: _ :: _, _, h => cases h
    | _ => cases h
  | _ => cases h
theorem sd_irng2 {a b : E} (ia : SdE CL nm gv Φ a) (ib : SdE CL nm gv Φ b) : SdI CL nm gv Φ (.rng2 a b) := by
  intro X hT tg pe h fl H0
  cases pe with
  | Call fn pes kws pos => cases fn with
    | Name x p =>
        match pes, kws, h with
        | [pa, pb], [], h =>
          simp only [chki, Bool.and_eq_true, decide_eq_true_eq] at h
          obtain ⟨⟨⟨⟨⟨rfl, h2⟩, h3⟩, h4⟩, h5⟩, h6⟩ := h
          exact ⟨i_rng2 hT (gl_ok h2) (ia X hT pa h3 fl H0).1 (ib X hT pb h5 fl H0).1 (not_false h4) (not_false h6), rfl⟩
        | [], _, h => cases h
        | [_], _, h => cases h
        | [_, _], _ :: _, h => cases h
        | _ :: _ :: _ :: _, _, h => cases h
    | _ => cases h
  | _ => cases h
theorem tup_of {e : Expr} (h : isTup e = true) : ∃ es k p, e = .Tuple es k p := by
  cases e with
  | Tuple es k p => exact ⟨es, k, p, rfl⟩
  | _ => cases h
theorem sd_ienm {e : E} (ie : SdE CL nm gv Φ e) : SdI CL nm gv Φ (.enm e) := by
  intro X hT tg pe h fl H0
  cases pe with
  | Call fn pes kws pos => cases fn with
    | Name x p =>
        match pes, kws, h with
        | [pe], [], h =>
          simp only [chki, Bool.and_eq_true, decide_eq_true_eq] at h
          obtain ⟨⟨⟨⟨rfl, h2⟩, h3⟩, h4⟩, h5⟩ := h
          obtain ⟨es, k, tp, rfl⟩ := tup_of h5
          exact ⟨i_enm hT (gl_ok h2) (ie X hT pe h3 fl H0).1 (not_false h4), rfl⟩
        | [], _, h => cases h
        | [_], _ :: _, h => cases h
        | _ :: _ :: _, _, h => cases h
    | _ => cases h
  | _ => cases h
theorem sd_izip {a b : E} (ia : SdE CL nm gv Φ a) (ib : SdE CL nm gv Φ b) : SdI CL nm gv Φ (.zip a b) := by
  intro X hT tg pe h fl H0
  cases pe with
  | Call fn pes kws pos => cases fn with
    | Name x p =>
        match pes, kws, h with
        | [pa, pb], [], h =>
          simp only [chki, Bool.and_eq_true, decide_eq_true_eq] at h
          obtain ⟨⟨⟨⟨⟨⟨rfl, h2⟩, h3⟩, h4⟩, h5⟩, h6⟩, h7⟩ := h
          obtain ⟨es, k, tp, rfl⟩ := tup_of h7
          exact ⟨i_zip hT (gl_ok h2) (ia X hT pa h3 fl H0).1 (ib X hT pb h5 fl H0).1 (not_false h4) (not_false h6), rfl⟩
        | [], _, h => cases h
        | [_], _, h => cases h
        | [_, _], _ :: _, h => cases h
        | _ :: _ :: _ :: _, _, h => cases h
    | _ => cases h
  | _ => cases h
mutual
theorem sdE : ∀ e : E, SdE CL nm gv Φ e
  | .var _ => sd_var
  | .cint _ => sd_cint
  | .cbl _ => sd_cbl
  | .cnon => sd_cnon
  | .cstr _ => sd_cstr
  | .glob _ => sd_glob
  | .bin _ a b => sd_bin (sdE a) (sdE b)
  | .neg a => sd_neg (sdE a)
  | .not a => sd_not (sdE a)
  | .and a b => sd_and (sdE a) (sdE b)
  | .or a b => sd_or (sdE a) (sdE b)
  | .cmp _ a b => sd_cmp (sdE a) (sdE b)
  | .chn _ _ a b c => sd_chn (sdE a) (sdE b) (sdE c)
  | .ite c a b => sd_ite (sdE c) (sdE a) (sdE b)
  | .tup es => sd_tup (sdA es)
  | .lst es => sd_lst (sdA es)
  | .sub a i => sd_sub (sdE a) (sdE i)
  | .cut a lo hi => sd_cut (sdE a) (sdO lo) (sdO hi)
  | .rev a => sd_rev (sdE a)
  | .stp a k => sd_stp (sdE a) (sdE k)
  | .sst a => sd_sst (sdE a)
  | .csb _ es _ => sd_csb (sdA es)
  | .call _ es => sd_call (sdA es)
  | .cmw _ _ es b => sd_cmw (sdA es) (sdE b)
  | .blt b es => by
    by_cases hb : b = .lrange
    · subst hb
      intro X hT pe h fl H0
      exfalso
      cases pe with
      | Call fn pes kws pos => cases fn with
        | Name x p => cases kws with
          | nil => simp [chk] at h
          | cons _ _ => first | cases h | (simp [chk, chki] at h; done)
        | _ => cases h
      | _ => cases h
    · exact sd_blt hb (sdA es)
  | .lrg a => sd_lrg (sdE a)
  | .isi a _ => sd_isi (sdE a)
  | .lc _ _ it c e => sd_lc (sdI it) (sdO c) (sdE e)
  | .dnew => sd_dnew
  | .lzp a b => sd_lzp (sdE a) (sdE b)
  | .dsp a b => sd_dsp (sdE a) (sdE b)
  | .idx a b => sd_idx (sdE a) (sdE b)
  | .cnt a b => sd_cnt (sdE a) (sdE b)
  | .mk _ es => sd_mk (sdA es)
  | .fld a _ => sd_fld (sdE a)
  | .shw a es => sd_shw (sdE a) (sdA es)
theorem sdA : ∀ es : EL, SdA CL nm gv Φ es
  | .nil => sd_anil
  | .cons e es => sd_acons (sdE e) (sdA es)
theorem sdO : ∀ o : EO, SdO CL nm gv Φ o
  | .no => sd_ono
  | .so e => sd_oso (sdE e)
theorem sdI : ∀ it : It, SdI CL nm gv Φ it
  | .seq e => sd_iseq (sdE e)
  | .rng1 e => sd_irng1 (sdE e)
  | .rng2 a b => sd_irng2 (sdE a) (sdE b)
  | .enm e => sd_ienm (sdE e)
  | .zip a b => sd_izip (sdE a) (sdE b)
end
end
end Sb
namespace Sb
open PySem L2
open Evl (Ex Ex.refl Ex.trans Ex.new)
structure Step (O : AS) (H : Hp) (O' : AS) (H' : Hp) : Prop where
  keep : ∀ a o, H a = some o → ¬ O a → H' a = some o
  own : ∀ a, O' a → O a ∨ H a = none
  live : ∀ a, H a ≠ none → H' a ≠ none
theorem Step.trans {O O1 O2 : AS} {H H1 H2 : Hp} (s : Step O H O1 H1) (t : Step O1 H1 O2 H2) : Step O H O2 H2 where
  keep := fun a o h n => t.keep a o (s.keep a o h n) (fun q => by
    rcases s.own a q with z | z
    · exact n z
    · rw [h] at z; cases z)
  own := fun a q => by
    rcases t.own a q with z | z
    · exact s.own a z
    · exact .inr (Classical.byContradiction fun n => s.live a n z)
  live := fun a h => t.live a (s.live a h)
theorem ex_live {H H' : Hp} (e : Ex H H') : ∀ a, H a ≠ none → H' a ≠ none := fun a h z => by
  cases q : H a with
  | none => exact h q
  | some o => rw [e a o q] at z; cases z
theorem Step.ex {O O' : AS} {H H' : Hp} (e : Ex H H') (h : ∀ a, O' a → O a ∨ H a = none) : Step O H O' H' := ⟨fun a o q _ => e a o q, h, ex_live e⟩
theorem Step.refl {O : AS} {H : Hp} : Step O H O H := Step.ex (Ex.refl H) fun _ q => .inl q
theorem Step.sub {O O' : AS} {H : Hp} (h : ∀ a, O' a → O a) : Step O H O' H := Step.ex (Ex.refl H) fun a q => .inl (h a q)
theorem con_app {a b : List Nat} {i : Nat} : (a ++ b).contains i = (a.contains i || b.contains i) := by
  rw [Bool.eq_iff_iff, List.contains_iff_mem, List.mem_append, Bool.or_eq_true, List.contains_iff_mem, List.contains_iff_mem]
theorem one_con {c : Bool} {i j : Nat} : (if c then [i] else []).contains j = (c && decide (j = i)) := by
  cases c with
  | false => rfl
  | true =>
    rw [if_pos rfl, Bool.eq_iff_iff, List.contains_iff_mem, List.mem_singleton]
    simp
theorem flSet_ow {fl : Fl} {i j : Nat} {o n : Bool} : (flSet fl i o n).ow.contains j = if j = i then o else fl.ow.contains j := by
  unfold flSet
  simp only [con_app, one_con, contains_filter]
  by_cases h : j = i
  · subst h; simp
  · simp [h]
theorem flSet_nw {fl : Fl} {i j : Nat} {o n : Bool} : (flSet fl i o n).nw.contains j = if j = i then n else fl.nw.contains j := by
  unfold flSet
  simp only [con_app, one_con, contains_filter]
  by_cases h : j = i
  · subst h; simp
  · simp [h]
theorem flDrop_ow {fl : Fl} {ret : List Nat} {j : Nat} : (flDrop fl ret).ow.contains j = (fl.ow.contains j && !ret.contains j) := by
  unfold flDrop
  exact contains_filter
theorem flDrop_dp {fl : Fl} {ret : List Nat} : (flDrop fl ret).dp = fl.dp := rfl
theorem flSet_dp {fl : Fl} {i j : Nat} {o n : Bool} (h : (flSet fl i o n).dp.contains j = true) : j ≠ i ∧ fl.dp.contains j = true := by
  unfold flSet at h
  rw [contains_filter, Bool.and_eq_true] at h
  exact ⟨by simpa using h.2, h.1⟩
theorem flDrop_nw {fl : Fl} {ret : List Nat} : (flDrop fl ret).nw = fl.nw := rfl
section
variable {K : PySem.W.Frag} {CL : Nat → Addr × List Str} {H0 H H' H1 : Hp} {fl fl' : Fl} {env env' : Env} {σ σ' : L2.St} {O O' : AR}
theorem root_frz {t : T} {S : AS} {p : Addr} (r : Rep K CL H t S (.ref p)) (m : mutR t = true) : ∃ o, H p = some o ∧ frzO o = false := by
  cases t with
  | lst ts => obtain ⟨b, vs, e, h0, h1, _⟩ := r; cases e; exact ⟨_, h1, rfl⟩
  | dct ks ts => obtain ⟨b, vs, e, h0, h1, _⟩ := r; cases e; exact ⟨_, h1, rfl⟩
  | obj c ts => obtain ⟨b, dx, fs, e, h0, h1, _⟩ := r; cases e; exact ⟨_, h1, rfl⟩
  | _ => cases m
/-- a value is stored -/
theorem ok_set {a : At} {t : T} {v : V} (i : Nat) (ok : Ok K CL H0 fl env σ H O) (e : Ex H H') (r : Rep K CL H' t (SS O env σ a.ret H0 a.nw) v) (f : a.fr = true → Fre H t v) :
    ∃ O', Ok K CL H0 (flSet (flDrop fl a.ret) i a.fr a.nw) (env.set i (some t)) (σ.set i (some v)) H' O' ∧ Step (uni O) H (uni O') H' := by
  have hl := ok.len
  have old : ∀ {j : Nat}, (flSet (flDrop fl a.ret) i a.fr a.nw).ow.contains j = true → j ≠ i → fl.ow.contains j = true ∧ a.ret.contains j = false := fun {j} h hn => by
    rw [flSet_ow, if_neg hn, flDrop_ow, Bool.and_eq_true] at h
    exact ⟨h.1, by simpa using h.2⟩
  have own_i : (flSet (flDrop fl a.ret) i a.fr a.nw).ow.contains i = a.fr := by rw [flSet_ow, if_pos rfl]
  have gete : ∀ {j : Nat}, j ≠ i → (env.set i (some t))[j]? = env[j]? := fun {j} hn => List.getElem?_set_ne (Ne.symm hn)
  have gets : ∀ {j : Nat}, j ≠ i → (σ.set i (some v))[j]? = σ[j]? := fun {j} hn => List.getElem?_set_ne (Ne.symm hn)
  have geti : ∀ {u : T}, (env.set i (some t))[i]? = some (some u) → u = t ∧ (σ.set i (some v))[i]? = some (some v) := fun {u} h => by
    have hi : i < env.length := by
      have := (List.getElem?_eq_some_iff.mp h).1
      simpa using this
    rw [List.getElem?_set_self hi] at h
    cases h
    exact ⟨rfl, List.getElem?_set_self (by omega)⟩
  have fresh : ∀ {b : Addr}, a.fr = true → mutR t = true → v = .ref b → H b = none := fun {b} h1 h2 h3 => by
    obtain ⟨p, e1, e2⟩ := f h1 h2
    rw [h3] at e1
    cases e1
    exact e2
  refine ⟨fun g b => (g ≠ i ∧ O g b ∧ a.ret.contains g = false) ∨ (g = i ∧ a.fr = true ∧ mutR t = true ∧ v = .ref b), ⟨by simp [hl], ok.ex.trans e, fun g b hb => ?_, fun g b hb => ?_, fun g k b h1 h2 => ?_, fun g b o hb hz => ?_, fun j u hj => ?_, fun j u w h1 h2 h3 h4 => ?_⟩, Step.ex e fun b hb => ?_⟩
  · rcases hb with ⟨_, hb, _⟩ | ⟨_, h1, h2, h3⟩
    · exact ok.of_ g b hb
    · exact ex_none ok.ex (fresh h1 h2 h3)
  · rcases hb with ⟨_, hb, _⟩ | ⟨_, h1, h2, h3⟩
    · exact ex_live e b (ok.oa g b hb)
    · rw [h3] at r
      exact (root_in r h2).2
  · rcases h1 with ⟨_, h1, _⟩ | ⟨rfl, g1, g2, g3⟩
    · rcases h2 with ⟨_, h2, _⟩ | ⟨_, g1, g2, g3⟩
      · exact ok.ds g k b h1 h2
      · exact absurd (fresh g1 g2 g3) (ok.oa g b h1)
    · rcases h2 with ⟨_, h2, _⟩ | ⟨rfl, _⟩
      · exact absurd (fresh g1 g2 g3) (ok.oa k b h2)
      · rfl
  · rcases hb with ⟨_, hb, _⟩ | ⟨_, h1, h2, h3⟩
    · exact (ok.exd e).fz g b o hb hz
    · rw [h3] at r
      obtain ⟨o', q1, q2⟩ := root_frz r h2
      rw [hz] at q1; cases q1; exact q2
  · by_cases hji : j = i
    · subst hji
      obtain ⟨rfl, g⟩ := geti hj
      have r2 : Rep K CL H' u (SlS (fun g b => (g ≠ j ∧ O g b ∧ a.ret.contains g = false) ∨ (g = j ∧ a.fr = true ∧ mutR u = true ∧ v = .ref b)) j ((flSet (flDrop fl a.ret) j a.fr a.nw).nw.contains j) H0) v := r.mono fun b hb => ⟨fun g ob => by
        rcases ob with ⟨_, o, hr⟩ | ⟨h, _⟩
        · rw [List.contains_iff_mem.mpr (hb.1 g o)] at hr; cases hr
        · exact h, fun nb => hb.2 (by rw [flSet_nw, if_pos rfl] at nb; exact nb)⟩
      refine ⟨v, g, r2, fun h1 h2 => ?_⟩
      rw [own_i] at h1
      obtain ⟨p, e1, e2⟩ := f h1 h2
      exact ⟨p, e1, .inr ⟨rfl, h1, h2, e1⟩⟩
    · rw [gete hji] at hj
      obtain ⟨w, h1, h2, h3⟩ := ok.sl j u hj
      have r2 : Rep K CL H u (SlS (fun g b => (g ≠ i ∧ O g b ∧ a.ret.contains g = false) ∨ (g = i ∧ a.fr = true ∧ mutR t = true ∧ v = .ref b)) j ((flSet (flDrop fl a.ret) i a.fr a.nw).nw.contains j) H0) w := h2.alloc.mono fun b hb => ⟨fun g ob => by
        rcases ob with ⟨_, o, _⟩ | ⟨_, g1, g2, g3⟩
        · exact hb.1.1 g o
        · exact absurd (fresh g1 g2 g3) hb.2, fun nb => hb.1.2 (by rw [flSet_nw, if_neg hji, flDrop_nw] at nb; exact nb)⟩
      refine ⟨w, by rw [gets hji]; exact h1, r2.ex e, fun g1 g2 => ?_⟩
      obtain ⟨q1, q2⟩ := old g1 hji
      obtain ⟨p, e1, e2⟩ := h3 q1 g2
      exact ⟨p, e1, .inl ⟨hji, e2, q2⟩⟩
  · obtain ⟨hji, hd⟩ := flSet_dp h1
    obtain ⟨q1, q2⟩ := old h2 hji
    rw [gete hji] at h3
    rw [gets hji] at h4
    exact ((ok.dp j u w (by rw [← flDrop_dp (ret := a.ret)]; exact hd) q1 h3 h4).mono fun b hb => .inl ⟨hji, hb, q2⟩).ex e
  · obtain ⟨g, hb⟩ := hb
    rcases hb with ⟨_, hb, _⟩ | ⟨_, g1, g2, g3⟩
    · exact .inl ⟨g, hb⟩
    · exact .inr (fresh g1 g2 g3)
theorem Ok.root (ok : Ok K CL H0 fl env σ H O) {k : Nat} {u : T} {b : Addr} (h1 : fl.ow.contains k = true) (h2 : env[k]? = some (some u)) (h3 : mutR u = true) (h4 : σ[k]? = some (some (.ref b))) : O k b := by
  obtain ⟨v, e, _, h⟩ := ok.sl k u h2
  rw [h4] at e
  cases e
  obtain ⟨a, e, h⟩ := h h1 h3
  cases e
  exact h
/-- the thing of an own slot is changed -/
theorem ok_mut {a : At} {i : Nat} {t t' : T} {p : Addr} {o' : HO} (ok : Ok K CL H0 fl env σ H O) (e : Ex H H1) (ho : fl.ow.contains i = true) (hr : a.ret.contains i = false) (hi : env[i]? = some (some t)) (hm : mutR t = true) (hp : σ[i]? = some (some (.ref p)))
    (hm' : mutR t' = true) (r : Rep K CL (upd H1 p o') t' (fun b => b = p ∨ SlS O i (fl.nw.contains i) H0 b ∨ SS O env σ a.ret H0 a.nw b) (.ref p)) :
    ∃ O', Ok K CL H0 (flSet (flDrop fl a.ret) i true (a.nw && fl.nw.contains i)) (env.set i (some t')) σ (upd H1 p o') O' ∧ Step (uni O) H (uni O') (upd H1 p o') := by
  have hl := ok.len
  have hilt : i < env.length := (List.getElem?_eq_some_iff.mp hi).1
  have hO : O i p := ok.root ho hi hm hp
  have old : ∀ {j : Nat}, (flSet (flDrop fl a.ret) i true (a.nw && fl.nw.contains i)).ow.contains j = true → fl.ow.contains j = true ∧ a.ret.contains j = false := fun {j} h => by
    by_cases hn : j = i
    · subst hn; exact ⟨ho, hr⟩
    · rw [flSet_ow, if_neg hn, flDrop_ow, Bool.and_eq_true] at h
      exact ⟨h.1, by simpa using h.2⟩
  have gete : ∀ {j : Nat}, j ≠ i → (env.set i (some t'))[j]? = env[j]? := fun {j} hn => List.getElem?_set_ne (Ne.symm hn)
  have geti : (env.set i (some t'))[i]? = some (some t') := List.getElem?_set_self hilt
  have hH0 : H0 p = none := ok.of_ i p hO
  obtain ⟨o0, q0, f0⟩ : ∃ o, H p = some o ∧ frzO o = false := by
    obtain ⟨v, h1, h2, _⟩ := ok.sl i t hi
    rw [hp] at h1
    cases h1
    exact root_frz h2 hm
  have q1 : H1 p = some o0 := e p o0 q0
  have kp : ∀ {S : AS}, (∀ b, S b → b ≠ p) → Keep S H1 (upd H1 p o') := fun {S} hs b o hb hk => by
    have hn : b ≠ p := fun z => by
      subst z
      rcases hk with hk | hk
      · exact hs b hk rfl
      · rw [q1] at hb; cases hb; rw [f0] at hk; cases hk
    rw [upd_ne hn]; exact hb
  refine ⟨fun g b => O g b ∧ a.ret.contains g = false, ⟨by simp [hl], fun b o hb => ?_, fun g b hb => ok.of_ g b hb.1, fun g b hb => ?_, fun g k b h1 h2 => ok.ds g k b h1.1 h2.1, fun g b o hb hz => ?_, fun j u hj => ?_, fun j u w h1 h2 h3 h4 => ?_⟩, ⟨fun b o hb nb => ?_, fun b hb => .inl ?_, fun b hb => ?_⟩⟩
  · have hn : b ≠ p := fun z => by rw [z, hH0] at hb; cases hb
    rw [upd_ne hn]
    exact ok.ex.trans e b o hb
  · by_cases hn : b = p
    · rw [hn, upd_same]; simp
    · rw [upd_ne hn]
      exact ex_live e b (ok.oa g b hb.1)
  · by_cases hn : b = p
    · obtain ⟨o2, y1, y2⟩ := root_frz r hm'
      rw [hn, y1] at hz; cases hz; exact y2
    · rw [upd_ne hn] at hz
      exact (ok.exd e).fz g b o hb.1 hz
  · by_cases hji : j = i
    · subst hji
      rw [geti] at hj
      cases hj
      have r2 : Rep K CL (upd H1 p o') t' (SlS (fun g b => O g b ∧ a.ret.contains g = false) j ((flSet (flDrop fl a.ret) j true (a.nw && fl.nw.contains j)).nw.contains j) H0) (.ref p) := r.mono fun b hb => ⟨fun g ob => by
        rcases hb with hb | hb | hb
        · rw [hb] at ob; exact ok.ds g j p ob.1 hO
        · exact hb.1 g ob.1
        · have := ob.2
          rw [List.contains_iff_mem.mpr (hb.1 g ob.1)] at this; exact (Bool.noConfusion this), fun nb => by
        rw [flSet_nw, if_pos rfl, Bool.and_eq_true] at nb
        rcases hb with hb | hb | hb
        · rw [hb]; exact hH0
        · exact hb.2 nb.2
        · exact hb.2 nb.1⟩
      exact ⟨.ref p, hp, r2, fun _ _ => ⟨p, rfl, hO, hr⟩⟩
    · rw [gete hji] at hj
      obtain ⟨w, h1, h2, h3⟩ := ok.sl j u hj
      refine ⟨w, h1, ((h2.ex e).keep (S' := SlS O j (fl.nw.contains j) H0) (kp fun b hb z => hji (by rw [z] at hb; exact (hb.1 i hO).symm)) fun _ z => z).mono fun b hb => ⟨fun g ob => hb.1 g ob.1, fun nb => hb.2 (by rw [flSet_nw, if_neg hji, flDrop_nw] at nb; exact nb)⟩, fun g1 g2 => ?_⟩
      obtain ⟨q1, q2⟩ := old g1
      obtain ⟨p', e1, e2⟩ := h3 q1 g2
      exact ⟨p', e1, e2, q2⟩
  · obtain ⟨hji, hd⟩ := flSet_dp h1
    obtain ⟨z1, z2⟩ := old h2
    rw [gete hji] at h3
    exact (((ok.dp j u w (by rw [← flDrop_dp (ret := a.ret)]; exact hd) z1 h3 h4).ex e).keep (S' := O j) (kp fun b hb z => hji (by rw [z] at hb; exact ok.ds j i p hb hO)) fun _ z => z).mono fun b hb => ⟨hb, z2⟩
  · have hn : b ≠ p := fun z => nb ⟨i, by rw [z]; exact hO⟩
    rw [upd_ne hn]
    exact e b o hb
  · obtain ⟨g, hb⟩ := hb
    exact ⟨g, hb.1⟩
  · by_cases hn : b = p
    · rw [hn, upd_same]; simp
    · rw [upd_ne hn]
      exact ex_live e b hb
/-- fewer flags -/
theorem ok_weak (ok : Ok K CL H0 fl env σ H O) (h1 : ∀ i, fl'.ow.contains i = true → fl.ow.contains i = true) (h2 : ∀ i, fl'.nw.contains i = true → fl.nw.contains i = true) (h3 : ∀ i, fl'.dp.contains i = true → fl.dp.contains i = true) : ∃ O', Ok K CL H0 fl' env σ H O' ∧ Step (uni O) H (uni O') H := by
  refine ⟨O, ⟨ok.len, ok.ex, ok.of_, ok.oa, ok.ds, ok.fz, fun j u hj => ?_, fun i t v g1 g2 g3 g4 => ok.dp i t v (h3 i g1) (h1 i g2) g3 g4⟩, Step.refl⟩
  obtain ⟨w, g1, g2, g3⟩ := ok.sl j u hj
  exact ⟨w, g1, g2.mono fun b hb => ⟨hb.1, fun nb => hb.2 (h2 j nb)⟩, fun q1 q2 => g3 (h1 j q1) q2⟩
/-- .. and the regions of those alone -/
theorem ok_res (ok : Ok K CL H0 fl env σ H O) (h1 : ∀ i, fl'.ow.contains i = true → fl.ow.contains i = true) (h2 : ∀ i, fl'.nw.contains i = true → fl.nw.contains i = true) (h3 : ∀ i, fl'.dp.contains i = true → fl.dp.contains i = true) : Ok K CL H0 fl' env σ H (fun g b => O g b ∧ fl'.ow.contains g = true) := by
  refine ⟨ok.len, ok.ex, fun g b hb => ok.of_ g b hb.1, fun g b hb => ok.oa g b hb.1, fun g k b g1 g2 => ok.ds g k b g1.1 g2.1, fun g b o hb hz => ok.fz g b o hb.1 hz, fun j u hj => ?_, fun i t v g1 g2 g3 g4 => (ok.dp i t v (h3 i g1) (h1 i g2) g3 g4).mono fun b hb => ⟨hb, g2⟩⟩
  obtain ⟨w, g1, g2, g3⟩ := ok.sl j u hj
  refine ⟨w, g1, g2.mono fun b hb => ⟨fun g o => hb.1 g o.1, fun nb => hb.2 (h2 j nb)⟩, fun q1 q2 => ?_⟩
  obtain ⟨p, e1, e2⟩ := g3 (h1 j q1) q2
  exact ⟨p, e1, e2, q1⟩
/-- targets that own nothing -/
theorem ok_tp {slots ret : List Nat} {nw : Bool} (ok : Ok K CL H0 fl env σ H O) (e : Ex H H') (hl : σ'.length = env'.length)
    (hg : ∀ j u, env'[j]? = some (some u) → (∃ w, σ'[j]? = some (some w) ∧ j ∈ slots ∧ Rep K CL H' u (SS O env σ ret H0 nw) w) ∨ (j ∉ slots ∧ env[j]? = some (some u) ∧ σ'[j]? = σ[j]?))
    (h1 : ∀ j, fl'.ow.contains j = true → j ∉ slots ∧ fl.ow.contains j = true ∧ ret.contains j = false) (h2 : ∀ j, j ∈ slots → fl'.nw.contains j = true → nw = true) (h3 : ∀ j, j ∉ slots → fl'.nw.contains j = true → fl.nw.contains j = true) (h4 : ∀ j, fl'.dp.contains j = true → fl.dp.contains j = true) :
    ∃ O', Ok K CL H0 fl' env' σ' H' O' ∧ Step (uni O) H (uni O') H' := by
  refine ⟨fun g b => O g b ∧ fl'.ow.contains g = true, ⟨hl, ok.ex.trans e, fun g b hb => ok.of_ g b hb.1, fun g b hb => ex_live e b (ok.oa g b hb.1), fun g k b g1 g2 => ok.ds g k b g1.1 g2.1, fun g b o hb hz => (ok.exd e).fz g b o hb.1 hz, fun j u hj => ?_, fun j u w g1 g2 g3 g4 => ?_⟩, Step.ex e fun b hb => .inl (let ⟨g, hb⟩ := hb; ⟨g, hb.1⟩)⟩
  · rcases hg j u hj with ⟨w, q1, q2, q3⟩ | ⟨q0, q1, q2⟩
    · have r2 : Rep K CL H' u (SlS (fun g b => O g b ∧ fl'.ow.contains g = true) j (fl'.nw.contains j) H0) w := q3.mono fun b hb => ⟨fun g ob => by
        have z := (h1 g ob.2).2.2
        rw [List.contains_iff_mem.mpr (hb.1 g ob.1)] at z; exact (Bool.noConfusion z), fun nb => hb.2 (h2 j q2 nb)⟩
      exact ⟨w, q1, r2, fun z _ => absurd q2 (h1 j z).1⟩
    · obtain ⟨w, g1, g2, g3⟩ := ok.sl j u q1
      refine ⟨w, by rw [q2]; exact g1, (g2.mono fun b hb => ⟨fun g ob => hb.1 g ob.1, fun nb => hb.2 (h3 j q0 nb)⟩).ex e, fun z1 z2 => ?_⟩
      obtain ⟨p, e1, e2⟩ := g3 (h1 j z1).2.1 z2
      exact ⟨p, e1, e2, z1⟩
  · obtain ⟨z1, z2, z3⟩ := h1 j g2
    rcases hg j u g3 with ⟨_, _, q2, _⟩ | ⟨_, q1, q2⟩
    · exact absurd q2 z1
    · rw [q2] at g4
      exact ((ok.dp j u w (h4 j g1) z2 q1 g4).ex e).mono fun b hb => ⟨hb, g2⟩
/-- a slot's thing goes over to another -/
theorem ok_mv {i j : Nat} {t : T} {v : V} (ok : Ok K CL H0 fl env σ H O) (hij : i ≠ j) (hj : env[j]? = some (some t)) (hv : σ[j]? = some (some v)) :
    ∃ O', Ok K CL H0 (flMove fl i j) ((env.set i (some t)).set j none) ((σ.set i (some v)).set j none) H O' ∧ Step (uni O) H (uni O') H := by
  have hl := ok.len
  have fo : ∀ k, (flMove fl i j).ow.contains k = if k = j then false else if k = i then fl.ow.contains j else fl.ow.contains k := fun k => by
    unfold flMove; rw [flSet_ow, flSet_ow]
  have fn : ∀ k, (flMove fl i j).nw.contains k = if k = j then false else if k = i then fl.nw.contains j else fl.nw.contains k := fun k => by
    unfold flMove; rw [flSet_nw, flSet_nw]
  have fd : ∀ {k}, (flMove fl i j).dp.contains k = true → k ≠ j ∧ k ≠ i ∧ fl.dp.contains k = true := fun {k} h => by
    unfold flMove at h
    obtain ⟨h1, h2⟩ := flSet_dp h
    obtain ⟨h3, h4⟩ := flSet_dp h2
    exact ⟨h1, h3, h4⟩
  have get : ∀ {k : Nat} {u : T}, ((env.set i (some t)).set j none)[k]? = some (some u) → k ≠ j ∧ ∃ k', env[k']? = some (some u) ∧ ((σ.set i (some v)).set j none)[k]? = σ[k']? ∧ (flMove fl i j).ow.contains k = fl.ow.contains k' ∧ (flMove fl i j).nw.contains k = fl.nw.contains k' ∧ (k' = j ∧ k = i ∨ k' = k ∧ k ≠ i) := fun {k u} h => by
    by_cases hkj : k = j
    · subst hkj
      by_cases hlt : k < (env.set i (some t)).length
      · rw [List.getElem?_set_self hlt] at h; cases h
      · rw [List.getElem?_eq_none (by rw [List.length_set]; omega)] at h; cases h
    · refine ⟨hkj, ?_⟩
      rw [List.getElem?_set_ne (Ne.symm hkj)] at h ⊢
      rw [fo, fn, if_neg hkj, if_neg hkj]
      by_cases hki : k = i
      · subst hki
        have hlt : k < env.length := by
          have := (List.getElem?_eq_some_iff.mp h).1
          simpa using this
        rw [List.getElem?_set_self hlt] at h
        cases h
        rw [List.getElem?_set_self (by omega), if_pos rfl, if_pos rfl]
        exact ⟨j, hj, hv.symm, rfl, rfl, .inl ⟨rfl, rfl⟩⟩
      · rw [List.getElem?_set_ne (Ne.symm hki)] at h ⊢
        rw [if_neg hki, if_neg hki]
        exact ⟨k, h, rfl, rfl, rfl, .inr ⟨rfl, hki⟩⟩
  refine ⟨fun g b => (g = i ∧ O j b) ∨ (g ≠ i ∧ g ≠ j ∧ O g b), ⟨by simp [hl], ok.ex, fun g b hb => ?_, fun g b hb => ?_, fun g k b h1 h2 => ?_, fun g b o hb hz => ?_, fun k u hk => ?_, fun k u w h1 h2 h3 h4 => ?_⟩, Step.sub fun b hb => ?_⟩
  · rcases hb with ⟨_, hb⟩ | ⟨_, _, hb⟩
    · exact ok.of_ _ b hb
    · exact ok.of_ _ b hb
  · rcases hb with ⟨_, hb⟩ | ⟨_, _, hb⟩
    · exact ok.oa _ b hb
    · exact ok.oa _ b hb
  · rcases h1 with ⟨e1, h1⟩ | ⟨_, g2, h1⟩ <;> rcases h2 with ⟨e2, h2⟩ | ⟨_, k2, h2⟩
    · rw [e1, e2]
    · exact absurd (ok.ds j k b h1 h2).symm k2
    · exact absurd (ok.ds g j b h1 h2) g2
    · exact ok.ds g k b h1 h2
  · rcases hb with ⟨_, hb⟩ | ⟨_, _, hb⟩
    · exact ok.fz _ b o hb hz
    · exact ok.fz _ b o hb hz
  · obtain ⟨n1, k', q1, q2, q3, q4, q5⟩ := get hk
    obtain ⟨w, g1, g2, g3⟩ := ok.sl k' u q1
    have r2 : Rep K CL H u (SlS (fun g b => (g = i ∧ O j b) ∨ (g ≠ i ∧ g ≠ j ∧ O g b)) k ((flMove fl i j).nw.contains k) H0) w := g2.mono fun b hb => ⟨fun g ob => by
      rcases ob with ⟨rfl, o⟩ | ⟨n2, n3, o⟩
      · have e1 := hb.1 j o
        rcases q5 with ⟨_, a2⟩ | ⟨a1, _⟩
        · exact a2.symm
        · exact absurd (a1.symm.trans e1.symm) n1
      · have e1 := hb.1 g o
        rcases q5 with ⟨a1, _⟩ | ⟨a1, _⟩
        · exact absurd (e1.trans a1) n3
        · exact e1.trans a1, fun nb => hb.2 (by rw [← q4]; exact nb)⟩
    refine ⟨w, by rw [q2]; exact g1, r2, fun z1 z2 => ?_⟩
    obtain ⟨p, e1, e2⟩ := g3 (by rw [← q3]; exact z1) z2
    rcases q5 with ⟨rfl, rfl⟩ | ⟨rfl, a2⟩
    · exact ⟨p, e1, .inl ⟨rfl, e2⟩⟩
    · exact ⟨p, e1, .inr ⟨a2, n1, e2⟩⟩
  · obtain ⟨a1, a2, a3⟩ := fd h1
    rw [fo, if_neg a1, if_neg a2] at h2
    rw [List.getElem?_set_ne (Ne.symm a1), List.getElem?_set_ne (Ne.symm a2)] at h3 h4
    exact (ok.dp k u w a3 h2 h3 h4).mono fun b hb => .inr ⟨a2, a1, hb⟩
  · obtain ⟨g, hb⟩ := hb
    rcases hb with ⟨_, hb⟩ | ⟨_, _, hb⟩
    · exact ⟨_, hb⟩
    · exact ⟨_, hb⟩
/-- empty slots more, slots less -/
theorem ok_ext (ok : Ok K CL H0 fl env σ H O) (n : Nat) : Ok K CL H0 fl (env ++ List.replicate n none) (σ ++ List.replicate n none) H O := by
  have hl := ok.len
  have get : ∀ {k : Nat} {u : T}, (env ++ List.replicate n none)[k]? = some (some u) → env[k]? = some (some u) ∧ (σ ++ List.replicate n none)[k]? = σ[k]? := fun {k u} h => by
    by_cases hk : k < env.length
    · rw [List.getElem?_append_left hk] at h
      exact ⟨h, List.getElem?_append_left (by omega)⟩
    · rw [List.getElem?_append_right (by omega), List.getElem?_replicate] at h
      split at h <;> cases h
  refine ⟨by simp [hl], ok.ex, ok.of_, ok.oa, ok.ds, ok.fz, fun k u hk => ?_, fun k u w h1 h2 h3 h4 => ?_⟩
  · obtain ⟨q1, q2⟩ := get hk
    rw [q2]
    exact ok.sl k u q1
  · obtain ⟨q1, q2⟩ := get h3
    rw [q2] at h4
    exact ok.dp k u w h1 h2 q1 h4
theorem ok_take (ok : Ok K CL H0 fl env σ H O) (n : Nat) : Ok K CL H0 fl (env.take n) (σ.take n) H O := by
  have hl := ok.len
  have get : ∀ {k : Nat} {u : T}, (env.take n)[k]? = some (some u) → env[k]? = some (some u) ∧ (σ.take n)[k]? = σ[k]? := fun {k u} h => by
    rw [List.getElem?_take] at h ⊢
    split at h
    · rename_i hk
      rw [if_pos hk]
      exact ⟨h, rfl⟩
    · cases h
  refine ⟨by simp [hl], ok.ex, ok.of_, ok.oa, ok.ds, ok.fz, fun k u hk => ?_, fun k u w h1 h2 h3 h4 => ?_⟩
  · obtain ⟨q1, q2⟩ := get hk
    rw [q2]
    exact ok.sl k u q1
  · obtain ⟨q1, q2⟩ := get h3
    rw [q2] at h4
    exact ok.dp k u w h1 h2 q1 h4
end
end Sb
namespace Sb
open PySem L2
open Evl (Ex Ex.refl Ex.trans Ex.new)
/-- what a body's context brings besides -/
structure Tx (X : Cx) (CL : Nat → Addr × List Str) (nm : Nm) (Ew : XK) : Prop where
  fn : ∀ x, X.fn x = true
  kind : X.env.scope.kind = .function
  own : PassesOwn (model X.prog X.w) X.A X.env X.xe
  tk : Takes X (fun cls d _ H => Ew cls d H)
  mkx : ∀ c x (m : Str) j p p2 pos, c < 20 → nm.cl c = x → x ≠ "" → Gl X x → (x == ("__debug__" : Str)) = false → PMk X (.Call (.Name x p) [.Constant (.str m) j p2] [] pos) (fun _ H Q => Q (.ref (CL c).1) none H)
section
variable (K : PySem.W.Frag) (CL : Nat → Addr × List Str) (Ew : XK)
def RX (fl : Fl) (H0 : Hp) (f : Env → Option R) (a : At) : TE := fun σ H Q => ∃ env O r, Ok K CL H0 fl env σ H O ∧ f env = some r ∧
  (∀ t, r = .val t → ∀ v H', Ex H H' → Rep K CL H' t (SS O env σ a.ret H0 a.nw) v → (a.fr = true → Fre H t v) → Q v H') ∧
  (∀ c, r = .exc c → ∀ H', Ex H0 H' → Ew (.ref (CL c).1) none H')
/-- what is known behind a statement -/
structure En (n : Nat) (r : Option Fl) (H0 : Hp) (O : AR) (H : Hp) (D : Ends) (out : Out) : Prop where
  nx : ∀ env', out = .nx env' → ∃ fl', r = some fl' ∧ ∀ σ' H' O', Ok K CL H0 fl' env' σ' H' O' → Step (uni O) H (uni O') H' → D.nx σ' H'
  rt : ∀ t, out = .rt t → ∀ v H', Ex H0 H' → Rep K CL H' t (fun a => H0 a = none) v → D.rt v H'
  ex : ∀ c, out = .ex c → ∀ H', Ex H0 H' → Ew (.ref (CL c).1) none H'
  rw : ∀ t, out = .rw t → ∀ v H' S, Ex H0 H' → Rep K CL H' t S v → D.rt v H'
def RS (n : Nat) (fl : Fl) (r : Option Fl) (H0 : Hp) (f : Env → Option Out) : TS := fun D σ H => ∃ env O out, env.length = n ∧ Ok K CL H0 fl env σ H O ∧ f env = some out ∧ En K CL Ew n r H0 O H D out
end
section
variable {K : PySem.W.Frag} {CL : Nat → Addr × List Str} {Ew : XK} {H0 H : Hp} {O : AR} {D : Ends} {n : Nat}
theorem En.next {fl : Fl} {env : Env} (h : ∀ σ' H' O', Ok K CL H0 fl env σ' H' O' → Step (uni O) H (uni O') H' → D.nx σ' H') : En K CL Ew n (some fl) H0 O H D (.nx env) :=
  ⟨fun env' z => by cases z; exact ⟨fl, rfl, h⟩, (fun t z => nomatch z), (fun c z => nomatch z), (fun t z => nomatch z)⟩
theorem En.go {fl : Fl} {env : Env} {σ' : L2.St} {H' : Hp} {O' : AR} (h : En K CL Ew n (some fl) H0 O H D (.nx env)) (ok : Ok K CL H0 fl env σ' H' O') (st : Step (uni O) H (uni O') H') : D.nx σ' H' := by
  obtain ⟨fl', e, k⟩ := h.nx env rfl
  cases e
  exact k σ' H' O' ok st
end
section
variable (gv : Nat → Option Int) (Φ : Nat → List T → Option R)
theorem bindT_len {tg : Tg} {t : T} {env env' : Env} (h : bindT tg t env = some env') : env'.length = env.length := by
  cases tg with
  | nm i => cases h; simp
  | tp is =>
    cases t with
    | tup ts => obtain ⟨_, rfl⟩ := ite1 h; rw [setAll_len]
    | lst ts => obtain ⟨_, rfl⟩ := ite1 h; rw [setAll_len]
    | _ => cases h
theorem forL_len {b : T → Env → Option Env} {f : Env → Option Out} (hb : ∀ t env env', b t env = some env' → env'.length = env.length) (hf : ∀ env env', f env = some (.nx env') → env'.length = env.length) :
    ∀ {ts : List T} {env env' : Env}, forL b f ts env = some (.nx env') → env'.length = env.length
  | [], _, _, h => by cases h; rfl
  | t :: ts, env, env', h => by
    obtain ⟨e1, h1, h⟩ := bind1 h
    obtain ⟨o, h2, h⟩ := bind1 h
    cases o with
    | nx e2 => exact (forL_len hb hf h).trans ((hf _ _ h2).trans (hb _ _ _ h1))
    | rt t => cases h
    | ex c => cases h
    | rw c => cases h
theorem whlL_len {c : Env → Option T} {f : Env → Option Out} (hf : ∀ env env', f env = some (.nx env') → env'.length = env.length) : ∀ {k : Nat} {env env' : Env}, whlL c f k env = some (.nx env') → env'.length = env.length
  | 0, _, _, h => by cases h
  | k + 1, env, env', h => by
    obtain ⟨q, h1, h⟩ := bind1 h
    cases q with
    | bl b =>
      cases b with
      | true =>
        obtain ⟨o, h2, h⟩ := bind1 h
        cases o with
        | nx e2 => exact (whlL_len hf h).trans (hf _ _ h2)
        | rt t => cases h
        | ex c => cases h
        | rw c => cases h
      | false => cases h; rfl
    | _ => cases h
variable (W : Nat)
mutual
theorem exec_len : ∀ (s : S) {env env' : Env}, exec gv Φ W s env = some (.nx env') → env'.length = env.length
  | .asg tg e, env, env', h => by
    simp only [exec] at h
    obtain ⟨t, _, h⟩ := bind1 h
    obtain ⟨x, h, z⟩ := map1 h
    cases z
    exact bindT_len h
  | .par is es, env, env', h => by
    simp only [exec] at h
    obtain ⟨t, _, h⟩ := bind1 h
    obtain ⟨_, z⟩ := ite1 h
    cases z
    rw [setAll_len]
  | .aug op i e, env, env', h => by
    simp only [exec] at h
    obtain ⟨x, y, _, _, h⟩ := bind2 h
    cases x <;> cases y <;> first | (cases h; done) | (obtain ⟨z, _, h⟩ := map1 h; cases h; simp)
  | .app i e, env, env', h => by
    simp only [exec] at h
    obtain ⟨x, y, _, _, h⟩ := bind2 h
    obtain ⟨z, _, h⟩ := map1 h
    cases h; simp
  | .ext i e, env, env', h => by
    simp only [exec] at h
    obtain ⟨x, y, _, _, h⟩ := bind2 h
    obtain ⟨z, _, h⟩ := map1 h
    cases h; simp
  | .ins i k e, env, env', h => by
    simp only [exec] at h
    obtain ⟨x, y, _, _, h⟩ := bind2 h
    obtain ⟨w, _, h⟩ := bind1 h
    obtain ⟨z, _, h⟩ := map1 h
    cases h; simp
  | .put i k e, env, env', h => by
    simp only [exec] at h
    obtain ⟨x, y, _, _, h⟩ := bind2 h
    obtain ⟨w, _, h⟩ := bind1 h
    obtain ⟨z, _, h⟩ := map1 h
    cases h; simp
  | .put2 i k k' e e', env, env', h => by
    simp only [exec] at h
    obtain ⟨x, y, _, _, h⟩ := bind2 h
    obtain ⟨w, v, _, _, h⟩ := bind2 h
    obtain ⟨z, _, h⟩ := bind1 h
    obtain ⟨u, _, h⟩ := bind1 h
    obtain ⟨z', _, h⟩ := map1 h
    cases h; simp
  | .asgC i f es, env, env', h => by
    simp only [exec] at h
    obtain ⟨ts, _, h⟩ := bind1 h
    obtain ⟨t, _, h⟩ := map1 h
    cases h; simp
  | .unp is j, env, env', h => by
    simp only [exec] at h
    obtain ⟨x, _, h⟩ := bind1 h
    obtain ⟨ts, _, h⟩ := map1 h
    cases h; rw [setAll_len]; simp
  | .fap i c e, env, env', h => by
    simp only [exec] at h
    obtain ⟨x, y, _, _, h⟩ := bind2 h
    obtain ⟨z, _, h⟩ := map1 h
    cases h; simp
  | .kfa x i k, env, env', h => by
    simp only [exec] at h
    obtain ⟨t, _, h⟩ := bind1 h
    obtain ⟨z, _, h⟩ := map1 h
    cases h; simp
  | .asgS i j k, env, env', h => by
    simp only [exec] at h
    obtain ⟨x, y, _, _, h⟩ := bind2 h
    cases x with
    | lst ts => cases y with
      | int m => obtain ⟨t, _, h⟩ := map1 h; cases h; simp
      | _ => cases h
    | _ => cases h
  | .pop j i, env, env', h => by
    simp only [exec] at h
    obtain ⟨t, _, h⟩ := bind1 h
    cases t with
    | lst ts =>
      simp only [] at h
      cases hl : ts.getLast? with
      | none => rw [hl] at h; cases h
      | some u => rw [hl] at h; cases h; simp
    | _ => cases h
  | .rob m c o, env, env', h => by
    cases o with
    | no => simp only [exec] at h; cases h
    | so e =>
      simp only [exec] at h
      obtain ⟨t, _, h⟩ := bind1 h
      obtain ⟨_, z⟩ := ite1 h
      cases z
  | .iff c a b, env, env', h => by
    simp only [exec] at h
    obtain ⟨x, _, h⟩ := bind1 h
    cases x with
    | bl q =>
      cases q with
      | true => exact execs_len a h
      | false => exact execs_len b h
    | _ => cases h
  | .for_ tg it b, env, env', h => by
    simp only [exec] at h
    obtain ⟨x, _, h⟩ := bind1 h
    exact forL_len (fun t e e' q => bindT_len q) (fun e e' q => execs_len b q) h
  | .whl c b, env, env', h => by
    simp only [exec] at h
    exact whlL_len (fun e e' q => execs_len b q) h
  | .asgF i e, env, env', h => by
    simp only [exec] at h
    obtain ⟨t, _, h⟩ := bind1 h
    obtain ⟨_, z⟩ := ite1 h
    cases z
    simp
  | .fro tg i b, env, env', h => by
    simp only [exec] at h
    obtain ⟨x, _, h⟩ := bind1 h
    cases x with
    | lst ts =>
      obtain ⟨o, h1, h⟩ := bind1 h
      cases o with
      | nx e1 =>
        cases h
        rw [wipeE_len]
        exact forL_len (fun t e e' z => bindT_len z) (fun e e' z => execs_len b z) h1
      | rt u => cases h
      | ex c => cases h
      | rw u => cases h
    | _ => cases h
  | .lck i s, env, env', h => by
    simp only [exec] at h
    obtain ⟨x, _, h⟩ := bind1 h
    cases x with
    | dct ks ts =>
      obtain ⟨o, h1, h⟩ := bind1 h
      cases o with
      | nx e1 =>
        obtain ⟨_, z⟩ := ite1 h
        cases z
        have := exec_len s h1
        rw [List.length_set] at this ⊢
        exact this
      | _ => cases h
    | _ => cases h
  | .ret m x, env, env', h => by
    simp only [exec] at h
    obtain ⟨r, _, h⟩ := bind1 h
    cases r with
    | val t =>
      by_cases hm : m = 3
      · simp only [hm, if_true] at h; cases h
      · simp only [hm, if_false] at h; obtain ⟨_, z⟩ := ite1 h; cases z
    | exc c => cases h
    | wkv c => cases h
  | .exp x, env, env', h => by
    simp only [exec] at h
    obtain ⟨r, _, h⟩ := bind1 h
    cases r with
    | val t => cases h; rfl
    | exc c => cases h
    | wkv c => cases h
  | .rse c, env, env', h => by
    simp only [exec] at h
    cases h
theorem execs_len : ∀ (s : SL) {env env' : Env}, execs gv Φ W s env = some (.nx env') → env'.length = env.length
  | .nil, env, env', h => by
    simp only [execs] at h
    cases h; rfl
  | .cons s r, env, env', h => by
    simp only [execs] at h
    obtain ⟨o, h1, h⟩ := bind1 h
    cases o with
    | nx e => exact (execs_len r h).trans (exec_len s h1)
    | rt t => cases h
    | ex c => cases h
    | rw c => cases h
end
end
section
variable {X : Cx} {CL : Nat → Addr × List Str} {nm : Nm} {gv : Nat → Option Int} {Φ : Nat → List T → Option R} {fl : Fl} {H0 : Hp} {pos : Pos} {Ew : XK} {W n : Nat}
theorem st_some {x : Option R} {r : R} (h : x.bind R.st = some r) : x = some r ∧ ∀ t, r = .wkv t → False := by
  obtain ⟨q, h1, h2⟩ := bind1 h
  subst h1
  cases q with
  | val t => cases h2; exact ⟨rfl, fun _ z => nomatch z⟩
  | exc c => cases h2; exact ⟨rfl, fun _ z => nomatch z⟩
  | wkv t => cases h2
theorem x_pure {e : E} {pe : Expr} (h : PE X pe (RE X.K CL fl H0 (ev gv Φ e) (at_ fl e))) : PE X pe (RX X.K CL Ew fl H0 (evx gv Φ (.pure e)) (atx fl (.pure e))) := by
  refine ⟨fun pins s σ H Q I hw => ?_⟩
  obtain ⟨env, O, r, ok, hf, q, _⟩ := hw
  simp only [evx] at hf
  obtain ⟨t, ht, rfl⟩ := map1 hf
  exact h.run pins s σ H Q I ⟨env, O, t, ok, ht, q t rfl⟩
theorem x_call (hT : Tb X CL nm gv Φ) (hX : Tx X CL nm Ew) {f : Nat} {es : EL} {pe : Expr} {pes : List Expr} {p : Pos} {x : Str} (hf0 : f < 10000) (hx : nm.fn f = x) (hg : Gl X x) (hd : (x == ("__debug__" : Str)) = false) (h : PA X (pe :: pes) (RA X.K CL fl H0 (evs gv Φ es) (ats fl es)))
    (hs : isStar pe = false) (hss : pes.all (fun e => !isStar e) = true) : PE X (.Call (.Name x p) (pe :: pes) [] pos) (RX X.K CL Ew fl H0 (evx gv Φ (.call f es)) (atx fl (.call f es))) := by
  refine ⟨fun pins s σ H Q I hw => ?_⟩
  obtain ⟨env, O, r, ok, hf, q, qx⟩ := hw
  simp only [evx] at hf
  obtain ⟨ts, ht, hz⟩ := bind1 hf
  obtain ⟨hz, hnw⟩ := st_some hz
  obtain ⟨k, fa, fd, ps, hm, hk, hb, hr, F⟩ := hT.fn f ts _ hf0 hz
  subst hx
  refine (pe_call (E := Ew) F hr hg hm hk hb .nil (passes_call hX.tk (fun _ _ _ _ h => h)) h hd (star_ok hs) (back_ok hss)).run pins s σ H Q I ⟨env, O, ts, ok, ht, fun vs H1 e1 r1 => ?_⟩
  show spF X.K CL (Φ f) (vs ++ []) H1 Q Ew
  rw [List.append_nil]
  refine ⟨ts, _, r1.top, hz, fun t' et v H' e' r' => ?_, fun c z H' e' => qx c z H' (ok.ex.trans (e1.trans e')), fun t z => (hnw t z).elim⟩
  obtain ⟨g1, g2⟩ := fresh_ss (ret := []) (nw := true) (ok.exd e1) e1 r'
  exact q t' et v H' (e1.trans e') g1 fun _ => g2
theorem x_call0 (hT : Tb X CL nm gv Φ) (hX : Tx X CL nm Ew) {f : Nat} {p : Pos} {x : Str} (hf0 : f < 10000) (hx : nm.fn f = x) (hg : Gl X x) (hd : (x == ("__debug__" : Str)) = false) : PE X (.Call (.Name x p) [] [] pos) (RX X.K CL Ew fl H0 (evx gv Φ (.call f .nil)) (atx fl (.call f .nil))) := by
  refine ⟨fun pins s σ H Q I hw => ?_⟩
  obtain ⟨env, O, r, ok, hf, q, qx⟩ := hw
  simp only [evx, evs] at hf
  obtain ⟨hz, hnw⟩ := st_some (x := Φ f []) hf
  obtain ⟨k, fa, fd, ps, hm, hk, hb, hr, F⟩ := hT.fn f [] _ hf0 hz
  subst hx
  refine (pe_call0 (E := Ew) F hr hg hm hk hb .nil (passes_call hX.tk (fun _ _ _ _ h => h)) hd).run pins s σ H Q I ?_
  show spF X.K CL (Φ f) ([] ++ []) H Q Ew
  refine ⟨[], _, rfl, hz, fun t' et v H' e' r' => ?_, fun c z H' e' => qx c z H' (ok.ex.trans e'), fun t z => (hnw t z).elim⟩
  obtain ⟨g1, g2⟩ := fresh_ss (ret := []) (nw := true) ok (Ex.refl H) r'
  exact q t' et v H' e' g1 fun _ => g2
theorem x_ite {c : E} {a b : XE} {pc pa pb : Expr} (hc : PT X pc (RT X.K CL fl H0 (ev gv Φ c))) (ha : PE X pa (RX X.K CL Ew fl H0 (evx gv Φ a) (atx fl a))) (hb : PE X pb (RX X.K CL Ew fl H0 (evx gv Φ b) (atx fl b))) :
    PE X (.IfExp pc pa pb pos) (RX X.K CL Ew fl H0 (evx gv Φ (.ite c a b)) (atx fl (.ite c a b))) := by
  refine ⟨fun pins s σ H Q I h => ?_⟩
  obtain ⟨env, O, r, ok, hf, q, qx⟩ := h
  simp only [evx] at hf
  obtain ⟨x, hx, hz⟩ := bind1 hf
  simp only [atx] at q
  refine (pe_ifExp hc ha hb).run pins s σ H Q I ?_
  cases x with
  | bl k =>
    cases k with
    | true =>
      refine ⟨env, O, _, ok, hx, fun H1 e1 => iteT ⟨env, O, _, ok.exd e1, hz, fun t et v H2 e2 r2 f2 => q t et v H2 (e1.trans e2) (r2.mono (ss_mono (join_l _ _) (join_nl _ _))) fun hf => ?_, qx⟩⟩
      have hf' : (atx fl a).fr = true := (Bool.and_eq_true _ _ ▸ hf : _ ∧ _).1
      exact fun m => let ⟨p, e, h⟩ := f2 hf' m; ⟨p, e, ex_none e1 h⟩
    | false =>
      refine ⟨env, O, _, ok, hx, fun H1 e1 => iteF ⟨env, O, _, ok.exd e1, hz, fun t et v H2 e2 r2 f2 => q t et v H2 (e1.trans e2) (r2.mono (ss_mono (join_r _ _) (join_nr _ _))) fun hf => ?_, qx⟩⟩
      have hf' : (atx fl b).fr = true := (Bool.and_eq_true _ _ ▸ hf : _ ∧ _).2
      exact fun m => let ⟨p, e, h⟩ := f2 hf' m; ⟨p, e, ex_none e1 h⟩
  | _ => cases hz
theorem PS.imp {st : Stmt} {t t' : TS} (h : PS X st t) (m : ∀ D σ H, t' D σ H → t D σ H) : PS X st t' := ⟨fun pins s σ H D I q => h.run pins s σ H D I (m _ _ _ q)⟩
theorem PSs.imp {st : List Stmt} {t t' : TS} (h : PSs X st t) (m : ∀ D σ H, t' D σ H → t D σ H) : PSs X st t' := ⟨fun pins s σ H D I q => h.run pins s σ H D I (m _ _ _ q)⟩
/-- name = value -/
theorem s_asg {i : Nat} {e : E} {st : Stmt} {te : TE} (h : PS X st (tAsg te (gName i))) (m : ∀ σ H Q, RE X.K CL fl H0 (ev gv Φ e) (at_ fl e) σ H Q → te σ H Q) :
    PS X st (RS X.K CL Ew n fl (some (flSet (flDrop fl (at_ fl e).ret) i (at_ fl e).fr (at_ fl e).nw)) H0 (exec gv Φ W (.asg (.nm i) e))) := by
  refine PS.imp h fun D σ H hw => ?_
  obtain ⟨env, O, out, hn, ok, hf, q⟩ := hw
  simp only [exec] at hf
  obtain ⟨t, ht, hz⟩ := bind1 hf
  obtain ⟨env', h1, rfl⟩ := map1 hz
  cases h1
  refine m σ H _ ⟨env, O, t, ok, ht, fun v H' e' r f => ?_⟩
  obtain ⟨O', ok', st'⟩ := ok_set i ok e' r f
  exact q.go ok' st'
theorem flT_ow {nw : Bool} {j : Nat} : ∀ {is : List Nat} {f : Fl}, (is.foldl (fun f i => flSet f i false nw) f).ow.contains j = true → j ∉ is ∧ f.ow.contains j = true
  | [], f, h => ⟨by simp, h⟩
  | i :: is, f, h => by
    obtain ⟨h1, h2⟩ := flT_ow (is := is) h
    rw [flSet_ow] at h2
    by_cases hj : j = i
    · rw [if_pos hj] at h2; cases h2
    · rw [if_neg hj] at h2
      exact ⟨by simp only [List.mem_cons, not_or]; exact ⟨hj, h1⟩, h2⟩
theorem flT_dp {nw : Bool} {j : Nat} : ∀ {is : List Nat} {f : Fl}, (is.foldl (fun f i => flSet f i false nw) f).dp.contains j = true → f.dp.contains j = true
  | [], f, h => h
  | i :: is, f, h => (flSet_dp (flT_dp (is := is) h)).2
theorem flT_nw {nw : Bool} {j : Nat} : ∀ {is : List Nat} {f : Fl}, (is.foldl (fun f i => flSet f i false nw) f).nw.contains j = true → (j ∈ is → nw = true) ∧ (j ∉ is → f.nw.contains j = true)
  | [], f, h => ⟨fun z => (by cases z), fun _ => h⟩
  | i :: is, f, h => by
    obtain ⟨h1, h2⟩ := flT_nw (is := is) h
    by_cases hj : j ∈ is
    · exact ⟨fun _ => h1 hj, fun z => absurd (List.mem_cons_of_mem _ hj) z⟩
    · have h3 := h2 hj
      rw [flSet_nw] at h3
      by_cases hji : j = i
      · rw [if_pos hji] at h3
        exact ⟨fun _ => h3, fun z => absurd (by rw [hji]; exact List.mem_cons_self) z⟩
      · rw [if_neg hji] at h3
        exact ⟨fun z => (List.mem_cons.mp z).elim (fun q => absurd q hji) (fun q => absurd q hj), fun _ => h3⟩
/-- a store through any target, owned by none -/
theorem tg_ok {K : PySem.W.Frag} {tg : Tg} {a : At} {t : T} {v : V} {env env' : Env} {σ : L2.St} {H H' : Hp} {O : AR} {Q : L2.St → Hp → Prop} (ok : Ok K CL H0 fl env σ H O) (e : Ex H H') (r : Rep K CL H' t (SS O env σ a.ret H0 a.nw) v) (hb : bindT tg t env = some env')
    (q : ∀ σ' O', Ok K CL H0 (flSetT (flDrop fl a.ret) tg false a.nw) env' σ' H' O' → Step (uni O) H (uni O') H' → Q σ' H') : RG K CL tg v σ H' Q := by
  refine bind_get ok.len hb r fun σ' hl hg _ _ => ?_
  have fe : flSetT (flDrop fl a.ret) tg false a.nw = (tgSlots tg).foldl (fun f i => flSet f i false a.nw) (flDrop fl a.ret) := by cases tg <;> rfl
  obtain ⟨O', ok', st'⟩ := ok_tp (fl' := flSetT (flDrop fl a.ret) tg false a.nw) (slots := tgSlots tg) (ret := a.ret) (nw := a.nw) ok e hl (fun j u hj => by
    rcases hg j u hj with ⟨w, h1, h2, h3⟩ | h
    · exact .inl ⟨w, h1, h2, h3⟩
    · exact .inr h) (fun j hj => by
    rw [fe] at hj
    obtain ⟨h1, h2⟩ := flT_ow hj
    rw [flDrop_ow, Bool.and_eq_true] at h2
    exact ⟨h1, h2.1, by simpa using h2.2⟩) (fun j hj hn => by rw [fe] at hn; exact (flT_nw hn).1 hj) (fun j hj hn => by rw [fe] at hn; exact (flT_nw hn).2 hj) (fun j hj => by rw [fe] at hj; exact flT_dp (f := flDrop fl a.ret) hj)
  exact q σ' O' ok' st'
theorem sw_tup {ts : List Expr} {k : Nat} {p : Pos} {pe : Expr} {env : PySem.Env} (h : isTup pe = false) : swappedStores [.Tuple ts k p] pe env = pure none := by
  cases pe <;> first | rfl | cases h
theorem sws_tup {ts : List Expr} {k : Nat} {p : Pos} {pe : Expr} {l : Nat} {env : PySem.Env} : swapsWithSole [.Tuple ts k p] pe l env = pure false := by
  cases pe <;> rfl
theorem s_tp (hT : Tb X CL nm gv Φ) (hX : Tx X CL nm Ew) {is : List Nat} {e : E} {pe : Expr} {pes : List Expr} {k : Nat} {p : Pos} (hg : tgC X.N X.env.scope (fun _ => true) (.tp is) (.Tuple pes k p) = true) (ht : isTup pe = false) (he : PE X pe (RE X.K CL fl H0 (ev gv Φ e) (at_ fl e))) :
    PS X (.Assign [.Tuple pes k p] pe pos) (RS X.K CL Ew n fl (some (flSetT (flDrop fl (at_ fl e).ret) (.tp is) (at_ fl e).fr (at_ fl e).nw)) H0 (exec gv Φ W (.asg (.tp is) e))) := by
  refine PS.imp (ps_asg he (g_tg (CL := CL) hT.nd hT.calm hg fun x _ => hX.fn x) sws_tup (sw_tup ht) rfl) fun D σ H hw => ?_
  obtain ⟨env, O, out, hn, ok, hf, q⟩ := hw
  simp only [exec] at hf
  obtain ⟨t, ht, hz⟩ := bind1 hf
  obtain ⟨env', h1, rfl⟩ := map1 hz
  refine ⟨env, O, t, ok, ht, fun v H' e' r f => ?_⟩
  exact tg_ok ok e' r h1 fun σ' O' ok' st' => q.go ok' st'
end
end Sb
namespace Sb
open PySem L2
open Evl (Ex Ex.refl Ex.trans Ex.new)
section
variable {X : Cx} {CL : Nat → Addr × List Str} {nm : Nm} {gv : Nat → Option Int} {Φ : Nat → List T → Option R} {fl : Fl} {H0 : Hp} {pos : Pos} {Ew : XK} {W n : Nat}
def RP (K : PySem.W.Frag) (CL : Nat → Addr × List Str) (f : Env → Option (List T)) (n k : Nat) (fl fl' : Fl) (H0 : Hp) : TA := fun σ H Q => ∃ env O dn dv ts, env.length = n ∧ σ.length = n ∧ dn.length = k ∧ dv.length = k ∧
  Ok K CL H0 fl (env ++ dn.map some) (σ ++ dv.map some) H O ∧ f env = some ts ∧
  ∀ vs H' O', vs.length = ts.length → Ok K CL H0 fl' (env ++ (dn ++ ts).map some) (σ ++ (dv ++ vs).map some) H' O' → Step (uni O) H (uni O') H' → Q vs H'
theorem p_nil {k : Nat} : PA X [] (RP X.K CL (evs gv Φ .nil) n k fl (flTmp (n + k) .nil fl) H0) := by
  refine ⟨fun p pins s σ H Q I h => ?_⟩
  obtain ⟨env, O, dn, dv, ts, h1, h2, h3, h4, ok, hf, q⟩ := h
  simp only [evs] at hf
  cases hf
  refine (pa_nil (X := X)).run p pins s σ H Q I (q [] H O rfl ?_ Step.refl)
  simpa [flTmp] using ok
theorem get_app {α : Type} {l m : List (Option α)} {i : Nat} {x : α} (h : l[i]? = some (some x)) : (l ++ m)[i]? = some (some x) := by
  have hi := (List.getElem?_eq_some_iff.mp h).1
  rw [List.getElem?_append_left hi]; exact h
theorem set_end {α : Type} (l : List (Option α)) (x : Option α) : (l ++ [none]).set l.length x = l ++ [x] := by
  rw [List.set_append_right _ _ (Nat.le_refl _), Nat.sub_self]; rfl
theorem p_cons {k : Nat} {e : E} {es : EL} {pe : Expr} {pes : List Expr} (he : PE X pe (RE X.K CL fl H0 (ev gv Φ e) (at_ fl e)))
    (hr : PA X pes (RP X.K CL (evs gv Φ es) n (k + 1) (flSet (flDrop fl (at_ fl e).ret) (n + k) (at_ fl e).fr (at_ fl e).nw) (flTmp (n + (k + 1)) es (flSet (flDrop fl (at_ fl e).ret) (n + k) (at_ fl e).fr (at_ fl e).nw)) H0)) (hs : isStar pe = false) :
    PA X (pe :: pes) (RP X.K CL (evs gv Φ (.cons e es)) n k fl (flTmp (n + k) (.cons e es) fl) H0) := by
  refine ⟨fun p pins s σ H Q I h => ?_⟩
  obtain ⟨env, O, dn, dv, ts, h1, h2, h3, h4, ok, hf, q⟩ := h
  simp only [evs] at hf
  obtain ⟨t, ht, hz⟩ := bind1 hf
  obtain ⟨us, hu, rfl⟩ := map1 hz
  have ok1 : Ok X.K CL H0 fl env σ H O := by
    have := ok_take ok n
    rw [List.take_append_of_le_length (by omega), List.take_append_of_le_length (by omega), List.take_of_length_le (by omega), List.take_of_length_le (by omega)] at this
    exact this
  refine (pa_cons he hr (star_ok hs)).run p pins s σ H Q I ⟨env, O, t, ok1, ht, fun v H1 e1 r1 f1 => ?_⟩
  have ok2 := ok_ext ok 1
  have r2 : Rep X.K CL H1 t (SS O (env ++ dn.map some ++ List.replicate 1 none) (σ ++ dv.map some ++ List.replicate 1 none) (at_ fl e).ret H0 (at_ fl e).nw) v := r1.mono fun b hb => ⟨hb.1, hb.2⟩
  obtain ⟨O', ok3, st⟩ := ok_set (n + k) ok2 e1 r2 f1
  have l1 : (env ++ dn.map some).length = n + k := by simp [h1, h3]
  have l2 : (σ ++ dv.map some).length = n + k := by simp [h2, h4]
  have s1 : (env ++ dn.map some ++ List.replicate 1 none).set (n + k) (some t) = env ++ (dn ++ [t]).map some := by
    rw [← l1, show List.replicate 1 (none : Option T) = [none] from rfl, set_end]; simp
  have s2 : (σ ++ dv.map some ++ List.replicate 1 none).set (n + k) (some v) = σ ++ (dv ++ [v]).map some := by
    rw [← l2, show List.replicate 1 (none : Option V) = [none] from rfl, set_end]; simp
  rw [s1, s2] at ok3
  refine ⟨env, O', dn ++ [t], dv ++ [v], us, h1, h2, by simp [h3], by simp [h4], ok3, hu, fun vs H2 O2 hl ok4 st4 => q (v :: vs) H2 O2 (by simp [hl]) ?_ (st.trans st4)⟩
  have e3 : flTmp (n + k) (.cons e es) fl = flTmp (n + (k + 1)) es (flSet (flDrop fl (at_ fl e).ret) (n + k) (at_ fl e).fr (at_ fl e).nw) := rfl
  rw [e3]
  simpa [List.append_assoc] using ok4
theorem ok_mvs {K : PySem.W.Frag} {H : Hp} : ∀ {is : List Nat} {ts : List T} {vs : List V} {env : Env} {σ : L2.St} {k : Nat} {fl : Fl} {O : AR}, env.length = n → σ.length = n → (∀ i ∈ is, i < n) → ts.length = is.length → vs.length = is.length →
    Ok K CL H0 fl (env ++ (List.replicate k none ++ ts.map some)) (σ ++ (List.replicate k none ++ vs.map some)) H O →
    ∃ O', Ok K CL H0 (flMvs (n + k) is fl) (setAll is ts env ++ List.replicate (k + is.length) none) (setAllV is vs σ ++ List.replicate (k + is.length) none) H O' ∧ Step (uni O) H (uni O') H
  | [], [], [], env, σ, k, fl, O, h1, h2, _, _, _, ok => ⟨O, by simpa [setAll, setAllV, flMvs] using ok, Step.refl⟩
  | i :: is, t :: ts, v :: vs, env, σ, k, fl, O, h1, h2, hi, h3, h4, ok => by
    have hin : i < n := hi i List.mem_cons_self
    have g1 : (env ++ (List.replicate k none ++ (t :: ts).map some))[n + k]? = some (some t) := by
      rw [List.getElem?_append_right (by omega), List.getElem?_append_right (by simp; omega)]
      simp [h1]
    have g2 : (σ ++ (List.replicate k none ++ (v :: vs).map some))[n + k]? = some (some v) := by
      rw [List.getElem?_append_right (by omega), List.getElem?_append_right (by simp; omega)]
      simp [h2]
    obtain ⟨O', ok', st⟩ := ok_mv (i := i) ok (by omega) g1 g2
    have key : ∀ {α : Type} (l : List (Option α)) (x : α) (r : List α), l.length = n → ((l ++ (List.replicate k none ++ (x :: r).map some)).set i (some x)).set (n + k) none = l.set i (some x) ++ (List.replicate (k + 1) none ++ r.map some) := by
      intro α l x r hl
      rw [List.set_append_left _ _ (by omega), List.set_append_right _ _ (by simp; omega), List.set_append_right _ _ (by simp; omega)]
      have e : n + k - (l.set i (some x)).length - (List.replicate k (none : Option α)).length = 0 := by simp; omega
      rw [e, List.map_cons, List.set_cons_zero, List.replicate_succ', List.append_assoc]
      rfl
    rw [key env t ts h1, key σ v vs h2] at ok'
    obtain ⟨O2, ok2, st2⟩ := ok_mvs (is := is) (ts := ts) (vs := vs) (k := k + 1) (by simp [h1]) (by simp [h2]) (fun j hj => hi j (List.mem_cons_of_mem _ hj)) (by simpa using h3) (by simpa using h4) ok'
    refine ⟨O2, ?_, st.trans st2⟩
    have e : k + 1 + is.length = k + (i :: is).length := by simp; omega
    rw [e] at ok2
    exact ok2
  | [], _ :: _, _, _, _, _, _, _, _, _, _, h3, _, _ => by cases h3
  | [], [], _ :: _, _, _, _, _, _, _, _, _, _, h4, _ => by cases h4
  | _ :: _, [], _, _, _, _, _, _, _, _, _, h3, _, _ => by cases h3
  | _ :: _, _ :: _, [], _, _, _, _, _, _, _, _, _, h4, _ => by cases h4
theorem flCut_ow {fl : Fl} {n i : Nat} (h : (flCut fl n).ow.contains i = true) : fl.ow.contains i = true := by
  unfold flCut at h
  rw [contains_filter, Bool.and_eq_true] at h
  exact h.1
theorem flCut_dp {fl : Fl} {n i : Nat} (h : (flCut fl n).dp.contains i = true) : fl.dp.contains i = true := by
  unfold flCut at h
  rw [contains_filter, Bool.and_eq_true] at h
  exact h.1
theorem flCut_nw {fl : Fl} {n i : Nat} (h : (flCut fl n).nw.contains i = true) : fl.nw.contains i = true := by
  unfold flCut at h
  rw [contains_filter, Bool.and_eq_true] at h
  exact h.1
theorem evs_len : ∀ {es : EL} {env : Env} {ts : List T}, evs gv Φ es env = some ts → ts.length = es.len
  | .nil, env, ts, h => by simp only [evs] at h; cases h; rfl
  | .cons e es, env, ts, h => by
    simp only [evs] at h
    obtain ⟨t, _, h⟩ := bind1 h
    obtain ⟨us, h3, rfl⟩ := map1 h
    rw [List.length_cons, evs_len h3]; rfl
/-- the stores themselves -/
theorem par_done {is : List Nat} {es : EL} {D : Ends} {σ : L2.St} {H : Hp} {ta : TA} (hi : ∀ i ∈ is, i < n) (hw : RS X.K CL Ew n fl (some (flPar n is es fl)) H0 (exec gv Φ W (.par is es)) D σ H)
    (m : ∀ Q, RP X.K CL (evs gv Φ es) n 0 (flCut fl n) (flTmp n es (flCut fl n)) H0 σ H Q → ta σ H Q) : ta σ H (fun vs H1 => vs.length = is.length ∧ ∀ H2, Ex H1 H2 → D.nx (setAllV is vs σ) H2) := by
  obtain ⟨env, O, out, hn, ok, hf, q⟩ := hw
  simp only [exec] at hf
  obtain ⟨ts, ht, hz⟩ := bind1 hf
  obtain ⟨hl, rfl⟩ := ite1 hz
  obtain ⟨O1, ok1, st1⟩ := ok_weak (fl' := flCut fl n) ok (fun i h => flCut_ow h) (fun i h => flCut_nw h) (fun i h => flCut_dp h)
  have hs : σ.length = n := by rw [ok.len, hn]
  refine m _ ⟨env, O1, [], [], ts, hn, hs, rfl, rfl, by simpa using ok1, ht, fun vs H' O' hv ok2 st2 => ⟨by rw [hv, hl], fun H2 e2 => ?_⟩⟩
  have ok2' : Ok X.K CL H0 (flTmp n es (flCut fl n)) (env ++ (List.replicate 0 none ++ ts.map some)) (σ ++ (List.replicate 0 none ++ vs.map some)) H' O' := by simpa using ok2
  obtain ⟨O3, ok3, st3⟩ := ok_mvs hn hs hi hl (by rw [hv, hl]) ok2'
  have ok4 := ok_take ok3 n
  rw [List.take_append_of_le_length (by rw [setAll_len]; omega), List.take_append_of_le_length (by rw [setAllV_len]; omega), List.take_of_length_le (by rw [setAll_len]; omega), List.take_of_length_le (by rw [setAllV_len]; omega)] at ok4
  obtain ⟨O5, ok5, st5⟩ := ok_weak (fl' := flPar n is es fl) (ok4.exd e2) (fun i h => flCut_ow h) (fun i h => flCut_nw h) (fun i h => flCut_dp h)
  exact q.go ok5 (((st1.trans st2).trans st3).trans ((Step.ex e2 fun _ z => .inl z).trans st5))
def parNames (sc : Scope) (ts : List Expr) : List Str := ts.filterMap fun
    | .Name id pos => if sc.names.lookup id == some .local && pos.line == (ts.head?.map (·.pos.line)).getD 0 then some id else none
    | _ => none
def parK (sc : Scope) (ts vs : List Expr) : Option Bool :=
  if !(ts.length == 2 || ts.length == 3) || vs.length != ts.length then some false
  else if (parNames sc ts).length != ts.length || (parNames sc ts).eraseDups.length != (parNames sc ts).length then some false
  else if vs.all (foldedForSure 8) then some false
  else if vs.all (constantsAlone 8) then none
  else some true
theorem sw_form {env : PySem.Env} {ts vs : List Expr} {k k2 : Nat} {p p2 : Pos} : swappedStores [.Tuple ts k p] (.Tuple vs k2 p2) env =
    (if (!(ts.length == 2 || ts.length == 3) || vs.length != ts.length || env.blockKind != .function) = true then pure none else
    if vs.any isStar = true then pure none else
    if ((parNames env.scope ts).length != ts.length || (parNames env.scope ts).eraseDups.length != (parNames env.scope ts).length) = true then pure none else
    if vs.all (foldedForSure 8) = true then pure none else
    if vs.all (constantsAlone 8) = true then (unsupported "assign.tuple-of-constant-expressions:order-of-the-stores" >>= fun (_ : Unit) => pure (some (parNames env.scope ts))) else pure (some (parNames env.scope ts))) := rfl
theorem par_sw {env : PySem.Env} {ts vs : List Expr} {k k2 : Nat} {p p2 : Pos} {b : Bool} (hk : env.scope.kind = .function) (hs : vs.all (fun e => !isStar e) = true) (h : parK env.scope ts vs = some b) :
    swappedStores [.Tuple ts k p] (.Tuple vs k2 p2) env = pure (if b = true then some (parNames env.scope ts) else none) := by
  have h0 : ¬ vs.any isStar = true := by
    intro z
    obtain ⟨e, he, q⟩ := List.any_eq_true.mp z
    have := List.all_eq_true.mp hs e he
    rw [q] at this; cases this
  have hk' : (env.blockKind != ScopeKind.function) = false := by
    have : env.blockKind = .function := by unfold Env.blockKind; rw [hk]; rfl
    rw [this]; rfl
  rw [sw_form, hk', Bool.or_false]
  unfold parK at h
  split at h
  · rename_i c
    cases h
    rw [if_pos c]; rfl
  · rename_i c
    rw [if_neg c, if_neg h0]
    split at h
    · rename_i c
      cases h
      rw [if_pos c]; rfl
    · rename_i c
      rw [if_neg c]
      split at h
      · rename_i c
        cases h
        rw [if_pos c]; rfl
      · rename_i c
        rw [if_neg c]
        split at h
        · cases h
        · rename_i c
          cases h
          rw [if_neg c]; rfl
end
end Sb
namespace Sb
open PySem L2
open Evl (Ex Ex.refl Ex.trans Ex.new)
section
variable {X : Cx} {CL : Nat → Addr × List Str} {nm : Nm} {gv : Nat → Option Int} {Φ : Nat → List T → Option R} {fl : Fl} {H0 : Hp} {pos : Pos} {Ew : XK} {W n : Nat}
theorem nms_map {N : List Str} {sc : Scope} {fb : Str → Bool} : ∀ {is : List Nat} {es : List Expr}, tgNms N sc fb is es = true → ∃ xs : List (Str × Pos), es = xs.map (fun x => .Name x.1 x.2) ∧ is.map (fun i => N[i]?) = xs.map (fun x => some x.1)
  | [], [], _ => ⟨[], rfl, rfl⟩
  | [], _ :: _, h => by cases h
  | _ :: _, [], h => by cases h
  | i :: is, e :: es, h => by
    have h' : tgNm N sc fb i e = true ∧ tgNms N sc fb is es = true := by simpa [tgNms] using h
    obtain ⟨xs, h1, h2⟩ := nms_map h'.2
    obtain ⟨x, p, rfl⟩ := nm_name h'.1
    have h3 : N[i]? = some x := by
      have := h'.1
      simp only [tgNm, Bool.and_eq_true, decide_eq_true_eq] at this
      exact this.1.1
    exact ⟨(x, p) :: xs, by rw [h1]; rfl, by rw [List.map_cons, h2, h3]; rfl⟩
theorem parNames_loc {sc : Scope} {ts : List Expr} {x : Str} (h : x ∈ parNames sc ts) : sc.names.lookup x = some .local := by
  unfold parNames at h
  obtain ⟨e, _, h2⟩ := List.mem_filterMap.mp h
  cases e with
  | Name id pos =>
    simp only [] at h2
    split at h2
    · rename_i c
      cases h2
      rw [Bool.and_eq_true] at c
      exact beq_iff_eq.mp c.1
    · cases h2
  | _ => cases h2
theorem parNames_sub {sc : Scope} {l : Nat} : ∀ {xs : List (Str × Pos)}, (((xs.map fun x => Expr.Name x.1 x.2).filterMap fun e => match e with
    | .Name id pos => if sc.names.lookup id == some .local && pos.line == l then some id else none
    | _ => none) : List Str).length = xs.length → ((xs.map fun x => Expr.Name x.1 x.2).filterMap fun e => match e with
    | .Name id pos => if sc.names.lookup id == some .local && pos.line == l then some id else none
    | _ => none) = xs.map (·.1)
  | [], _ => rfl
  | x :: xs, h => by
    rw [List.map_cons, List.filterMap_cons] at h ⊢
    have hle : ∀ (ys : List (Str × Pos)), (((ys.map fun x => Expr.Name x.1 x.2).filterMap fun e => match e with
      | .Name id pos => if sc.names.lookup id == some .local && pos.line == l then some id else none
      | _ => none) : List Str).length ≤ ys.length := fun ys => by
      have := List.length_filterMap_le (fun e : Expr => match e with
        | .Name id pos => if sc.names.lookup id == some .local && pos.line == l then some id else none
        | _ => none) (ys.map fun x => Expr.Name x.1 x.2)
      simpa using this
    simp only [] at h ⊢
    split
    · rename_i c
      rw [c] at h
      simp only [] at h
      have := hle xs
      rw [List.length_cons] at h
      omega
    · rename_i y c
      rw [c] at h
      simp only [] at h
      have e : y = x.1 := by
        split at c
        · cases c; rfl
        · cases c
      rw [e, List.map_cons, parNames_sub (xs := xs) (by simpa using h)]
theorem len2 {α : Type} {l : List α} (h : l.length = 2) : ∃ a b, l = [a, b] := by
  match l, h with
  | [a, b], _ => exact ⟨a, b, rfl⟩
theorem len3 {α : Type} {l : List α} (h : l.length = 3) : ∃ a b c, l = [a, b, c] := by
  match l, h with
  | [a, b, c], _ => exact ⟨a, b, c, rfl⟩
theorem s_par (hT : Tb X CL nm gv Φ) (hX : Tx X CL nm Ew) {is : List Nat} {es : EL} {ptg pes : List Expr} {k k2 : Nat} {p p2 : Pos} {b : Bool} (hi : ∀ i ∈ is, i < n) (hnd : is.Nodup) (hl : es.len = is.length) (hsz : is.length ≤ LIM)
    (hg : tgC X.N X.env.scope (fun _ => true) (.tp is) (.Tuple ptg k p) = true) (hk : parK X.env.scope ptg pes = some b) (hss : pes.all (fun e => !isStar e) = true)
    (he : PA X pes (RP X.K CL (evs gv Φ es) n 0 (flCut fl n) (flTmp n es (flCut fl n)) H0)) :
    PS X (.Assign [.Tuple ptg k p] (.Tuple pes k2 p2) pos) (RS X.K CL Ew n fl (some (flPar n is es fl)) H0 (exec gv Φ W (.par is es))) := by
  have hw := par_sw (k := k) (k2 := k2) (p := p) (p2 := p2) hX.kind hss hk
  cases b with
  | false =>
    rw [if_neg (by decide)] at hw
    refine PS.imp (ps_asg (pe_tup he) (g_tg (CL := CL) hT.nd hT.calm hg fun x _ => hX.fn x) sws_tup hw rfl) fun D σ H q => ?_
    have q' := par_done (ta := RP X.K CL (evs gv Φ es) n 0 (flCut fl n) (flTmp n es (flCut fl n)) H0) hi q fun Q z => z
    obtain ⟨env, O, dn, dv, ts, a1, a2, a3, a4, a5, a6, a7⟩ := q'
    refine ⟨env, O, dn, dv, ts, a1, a2, a3, a4, a5, a6, fun vs H' O' z1 z2 z3 => ?_⟩
    obtain ⟨z4, z5⟩ := a7 vs H' O' z1 z2 z3
    exact ⟨by rw [z4]; exact lim_line hsz, fun q hq => ⟨q, vs, rfl, .inl (.of upd_same), z4, z5 _ (Ex.new hq)⟩⟩
  | true =>
    rw [if_pos rfl] at hw
    obtain ⟨xs, h1, h2⟩ := nms_map (is := is) (es := ptg) (by simpa [tgC] using hg)
    have hlen : is.length = xs.length := by have := congrArg List.length h2; simpa using this
    have hcnt : ptg.length = 2 ∨ ptg.length = 3 := by
      unfold parK at hk
      split at hk
      · cases hk
      · rename_i c
        simp at c
        rcases Nat.decEq ptg.length 2 with h | h
        · exact .inr (c.1 h)
        · exact .inl h
    have hnm : parNames X.env.scope ptg = xs.map (·.1) := by
      have hc : (parNames X.env.scope ptg).length = ptg.length := by
        unfold parK at hk
        split at hk
        · cases hk
        · split at hk
          · cases hk
          · rename_i c
            simp at c
            exact c.1
      subst h1
      exact parNames_sub (by rw [List.length_map] at hc; exact hc)
    have hloc : ∀ x ∈ xs, X.env.scope.names.lookup x.1 = some .local := fun x hx => parNames_loc (ts := ptg) (by rw [hnm]; exact List.mem_map_of_mem hx)
    have hpl : pes.length = ptg.length := by
      unfold parK at hk
      split at hk
      · cases hk
      · rename_i c
        simp at c
        exact c.2
    rw [hnm] at hw
    subst h1
    rw [List.length_map] at hcnt hpl
    rcases hcnt with hc | hc
    · obtain ⟨x, y, rfl⟩ := len2 hc
      obtain ⟨i, j, rfl⟩ := len2 (hlen.trans hc)
      obtain ⟨pa, pb, rfl⟩ := len2 (hpl.trans hc)
      simp only [List.map_cons, List.map_nil, List.cons.injEq, and_true] at h2
      have hij : i ≠ j := by simpa using hnd
      refine PS.imp (ps_par hT.calm hT.nd h2.1 h2.2 hij (hloc x (by simp)) (hloc y (by simp)) he hw rfl) fun D σ H q => ?_
      have q' := par_done (ta := RP X.K CL (evs gv Φ es) n 0 (flCut fl n) (flTmp n es (flCut fl n)) H0) hi q fun Q z => z
      obtain ⟨env, O, dn, dv, ts, a1, a2, a3, a4, a5, a6, a7⟩ := q'
      refine ⟨env, O, dn, dv, ts, a1, a2, a3, a4, a5, a6, fun vs H' O' z1 z2 z3 => ?_⟩
      obtain ⟨z4, z5⟩ := a7 vs H' O' z1 z2 z3
      obtain ⟨v, w, rfl⟩ := len2 z4
      exact ⟨v, w, rfl, z5 H' (Ex.refl H')⟩
    · obtain ⟨x, y, z, rfl⟩ := len3 hc
      obtain ⟨i, j, l, rfl⟩ := len3 (hlen.trans hc)
      obtain ⟨pa, pb, pc, rfl⟩ := len3 (hpl.trans hc)
      simp only [List.map_cons, List.map_nil, List.cons.injEq, and_true] at h2
      have hij : i ≠ j ∧ i ≠ l ∧ j ≠ l := by
        simp at hnd
        exact ⟨hnd.1.1, hnd.1.2, hnd.2⟩
      refine PS.imp (ps_par3 hT.calm hT.nd h2.1 h2.2.1 h2.2.2 hij.1 hij.2.1 hij.2.2 (hloc x (by simp)) (hloc y (by simp)) (hloc z (by simp)) he hw rfl) fun D σ H q => ?_
      have q' := par_done (ta := RP X.K CL (evs gv Φ es) n 0 (flCut fl n) (flTmp n es (flCut fl n)) H0) hi q fun Q z => z
      obtain ⟨env, O, dn, dv, ts, a1, a2, a3, a4, a5, a6, a7⟩ := q'
      refine ⟨env, O, dn, dv, ts, a1, a2, a3, a4, a5, a6, fun vs H' O' z1 z2 z3 => ?_⟩
      obtain ⟨z4, z5⟩ := a7 vs H' O' z1 z2 z3
      obtain ⟨v, w, u, rfl⟩ := len3 z4
      exact ⟨v, w, u, rfl, z5 H' (Ex.refl H')⟩
theorem ip_mulB : PIp X .Mult (fun x y H Q => ∃ i j, x = .int i ∧ y = .int j ∧ CMulB i j ∧ Q (.int (i * j)) H) := by
  intro pins s σ H x y v u Q I r1 r2 h
  obtain ⟨i, j, e1, e2, hc, q⟩ := h
  subst e1; subst e2
  obtain ⟨t, rfl⟩ := r1
  obtain ⟨t', rfl⟩ := r2
  exact PyProof.Rows.imul_int ⟨.int _, H, I.tok _, ⟨_, rfl⟩, q⟩ hc.ok
theorem s_aug (hT : Tb X CL nm gv Φ) (hX : Tx X CL nm Ew) {op : Bop} {i : Nat} {e : E} {pe : Expr} {x : Str} {p : Pos} (hop : op = .add ∨ op = .mul) (hi : X.N[i]? = some x) (hx : Loc X.env.scope x) (he : PE X pe (RE X.K CL fl H0 (ev gv Φ e) (at_ fl e))) :
    PS X (.AugAssign (.Name x p) op.py pe pos) (RS X.K CL Ew n fl (some (flSet fl i false true)) H0 (exec gv Φ W (.aug op i e))) := by
  have go : ∀ {ti : TIp}, PIp X op.py ti → (∀ x y z H Q, binT op (.int x) (.int y) = some z → (∀ k, z = .int k → Q (V.int k) H) → ti (.int x) (.int y) H Q) → PS X (.AugAssign (.Name x p) op.py pe pos) (RS X.K CL Ew n fl (some (flSet fl i false true)) H0 (exec gv Φ W (.aug op i e))) := by
    intro ti hp ht
    refine PS.imp (ps_aug hT.nd hi hx he hp (.inl (hX.fn x))) fun D σ H hw => ?_
    obtain ⟨env, O, out, hn, ok, hf, q⟩ := hw
    simp only [exec] at hf
    obtain ⟨a, b, ha, hb, hz⟩ := bind2 hf
    have ha' : env[i]? = some (some a) := by simpa [slot, Option.join_eq_some_iff] using ha
    cases a with
    | int a => cases b with
      | int b =>
        obtain ⟨z, h1, rfl⟩ := map1 hz
        obtain ⟨v, g1, g2, _⟩ := ok.sl i _ ha'
        have g2' : v = .int a := g2
        subst g2'
        refine ⟨.int a, g1, env, O, _, ok, hb, fun v H' e' r f => ?_⟩
        have r' : v = .int b := r
        subst r'
        refine ht a b z H' _ h1 fun k hk => ?_
        subst hk
        obtain ⟨O', ok', st'⟩ := ok_set (a := imA) (t := .int k) (v := .int k) i (ok.exd e') (Ex.refl H') rfl (fun _ => fre_of rfl)
        obtain ⟨O2, ok2, st2⟩ := ok_weak (fl' := flSet fl i false true) ok' (fun j hj => by
          rw [flSet_ow] at hj ⊢
          by_cases hji : j = i
          · rw [if_pos hji] at hj; cases hj
          · rw [if_neg hji] at hj ⊢
            rw [flDrop_ow, hj]; rfl) (fun j hj => by
          rw [flSet_nw] at hj ⊢
          exact hj) (fun j hj => hj)
        exact q.go ok2 (((Step.ex e' fun _ z => .inl z).trans st').trans st2)
      | _ => cases hz
    | _ => cases b <;> cases hz
  rcases hop with rfl | rfl
  · exact go ip_add fun x y z H Q h q => ⟨x, y, rfl, rfl, q _ (Option.some.inj h).symm⟩
  · refine go ip_mulB fun x y z H Q h q => ?_
    obtain ⟨hl, rfl⟩ := ite1 h
    exact ⟨x, y, rfl, rfl, (of_decide_eq_true hl : x.natAbs.log2 + y.natAbs.log2 < 100000000), q _ rfl⟩
theorem Ok.part {K : PySem.W.Frag} {H : Hp} {env : Env} {σ : L2.St} {O : AR} {i : Nat} {t : T} (ok : Ok K CL H0 fl env σ H O) (ho : fl.ow.contains i = true) (hi : env[i]? = some (some t)) (hm : mutR t = true) :
    ∃ p, σ[i]? = some (some (.ref p)) ∧ O i p ∧ Rep K CL H t (SlS O i (fl.nw.contains i) H0) (.ref p) := by
  obtain ⟨v, h1, h2, h3⟩ := ok.sl i t hi
  obtain ⟨p, e, h4⟩ := h3 ho hm
  subst e
  exact ⟨p, h1, h4, h2⟩
theorem keep_upd {S : AS} {H1 : Hp} {p : Addr} {o o' : HO} (hs : ∀ b, S b → b ≠ p) (hp : H1 p = some o) (hf : frzO o = false) : Keep S H1 (upd H1 p o') := fun a u h q => by
  have hn : a ≠ p := fun z => by
    subst z
    rcases q with q | q
    · exact hs a q rfl
    · rw [hp] at h; cases h; rw [hf] at q; cases q
  rw [upd_ne hn]; exact h
/-- a list's items change: those that stood, those of a value -/
theorem lst_new {K : PySem.W.Frag} {H H1 : Hp} {env : Env} {σ : L2.St} {O : AR} {i : Nat} {a : At} {ts us ts' : List T} {p : Addr} {vs ws vs' : List V} (ok : Ok K CL H0 fl env σ H O) (e : Ex H H1) (ho : fl.ow.contains i = true) (hr : a.ret.contains i = false)
    (hi : env[i]? = some (some (.lst ts))) (hp : σ[i]? = some (some (.ref p))) (hv : H1 p = some (.lst vs)) (r : Reps K CL H1 ts ((SlS O i (fl.nw.contains i) H0).but p) vs) (r2 : Reps K CL H1 us (SS O env σ a.ret H0 a.nw) ws)
    (hl : ts'.length ≤ LIM) (hj : ∀ (H2 : Hp) (S : AS), Reps K CL H2 ts S vs → Reps K CL H2 us S ws → Reps K CL H2 ts' S vs') :
    ∃ O', Ok K CL H0 (flSet (flDrop fl a.ret) i true (a.nw && fl.nw.contains i)) (env.set i (some (.lst ts'))) σ (upd H1 p (.lst vs')) O' ∧ Step (uni O) H (uni O') (upd H1 p (.lst vs')) := by
  have hO : O i p := ok.root ho hi rfl hp
  have hss : ∀ b, SS O env σ a.ret H0 a.nw b → b ≠ p := fun b hb z => by
    subst z
    rw [List.contains_iff_mem.mpr (hb.1 i hO)] at hr
    cases hr
  have g1 := r.keep (keep_upd (o' := .lst vs') (fun b hb => hb.2) hv rfl) fun b (hb : (SlS O i (fl.nw.contains i) H0).but p b) => (show (fun b => (b = p ∨ SlS O i (fl.nw.contains i) H0 b ∨ SS O env σ a.ret H0 a.nw b) ∧ b ≠ p) b from ⟨.inr (.inl hb.1), hb.2⟩)
  have g2 := r2.keep (keep_upd (o' := .lst vs') hss hv rfl) fun b (hb : SS O env σ a.ret H0 a.nw b) => (show (fun b => (b = p ∨ SlS O i (fl.nw.contains i) H0 b ∨ SS O env σ a.ret H0 a.nw b) ∧ b ≠ p) b from ⟨.inr (.inr hb), hss b hb⟩)
  refine ok_mut (t := .lst ts) ok e ho hr hi rfl hp rfl ⟨p, vs', rfl, .inl rfl, upd_same, hl, hj _ _ g1 g2⟩
theorem slot_get {env : Env} {i : Nat} {t : T} (h : slot env i = some t) : env[i]? = some (some t) := by simpa [slot, Option.join_eq_some_iff] using h
/-- the changed slot's list, behind the value's making -/
theorem lst_at {K : PySem.W.Frag} {H H1 : Hp} {env : Env} {σ : L2.St} {O : AR} {i : Nat} {ts : List T} (ok : Ok K CL H0 fl env σ H O) (e : Ex H H1) (ho : fl.ow.contains i = true) (hi : env[i]? = some (some (.lst ts))) :
    ∃ p vs, σ[i]? = some (some (.ref p)) ∧ H1 p = some (.lst vs) ∧ H p = some (.lst vs) ∧ vs.length = ts.length ∧ ts.length ≤ LIM ∧ Reps K CL H1 ts ((SlS O i (fl.nw.contains i) H0).but p) vs := by
  obtain ⟨p, h1, _, h2⟩ := ok.part ho hi rfl
  obtain ⟨b, vs, e1, _, h3, h4, h5⟩ := h2
  cases e1
  exact ⟨p, vs, h1, e p _ h3, h3, h5.len, h4, h5.ex e⟩
theorem pv_of {x : Str} {i : Nat} {p : Pos} (hi : X.N[i]? = some x) (hv : Vis X.env.scope x) (hd : (x == ("__debug__" : Str)) = false) (hcd : (x == ("__classdict__" : Str)) = false) : PE X (.Name x p) (tVar i) := pe_var hi hv hd hcd
theorem few1 {env : PySem.Env} {cpos : Pos} {pe : Expr} (hs : isStar pe = false) : ((backTo cpos (starEach [pe] env)).all (fun x => !x.1) && (backToKw cpos (keywordEach [] env)).all (fun x => x.1.isSome)
      && decide (([pe] : List Expr).length + ([] : List Keyword).length + (if ([] : List Keyword).isEmpty then 0 else 1) < 30)) = true := by
  rw [star_ok hs]; rfl
theorem few2 {env : PySem.Env} {cpos : Pos} {pe pk : Expr} (hs : isStar pe = false) (hk : isStar pk = false) : ((backTo cpos (starEach [pk, pe] env)).all (fun x => !x.1) && (backToKw cpos (keywordEach [] env)).all (fun x => x.1.isSome)
      && decide (([pk, pe] : List Expr).length + ([] : List Keyword).length + (if ([] : List Keyword).isEmpty then 0 else 1) < 30)) = true := by
  rw [star_ok hk, star_ok hs]; rfl
theorem s_app (hT : Tb X CL nm gv Φ) {i : Nat} {e : E} {pe : Expr} {x : Str} {p pa pc : Pos} (hi : X.N[i]? = some x) (hv : Vis X.env.scope x) (hd : (x == ("__debug__" : Str)) = false) (hcd : (x == ("__classdict__" : Str)) = false) (hs : isStar pe = false) (hl : (pa.endLine == pc.line) = true)
    (ho : fl.ow.contains i = true) (hr : (at_ fl e).ret.contains i = false) (he : PE X pe (RE X.K CL fl H0 (ev gv Φ e) (at_ fl e))) :
    PS X (.Expr (.Call (.Attribute (.Name x p) "append" pa) [pe] [] pc) pos) (RS X.K CL Ew n fl (some (flSet (flDrop fl (at_ fl e).ret) i true ((at_ fl e).nw && fl.nw.contains i))) H0 (exec gv Φ W (.app i e))) := by
  refine PS.imp (ps_expr (pe_bm PySem.F.plainAttrs_list PySem.F.slot_list_append PySem.F.type_list_append mt_append (pv_of hi hv hd hcd) (pa_cons he pa_nil (star_ok hs)) rfl (few1 hs) hl (star_ok hs) rfl) rfl) fun D σ H hw => ?_
  obtain ⟨env, O, out, hn, ok, hf, q⟩ := hw
  simp only [exec] at hf
  obtain ⟨a, b, ha, hb, hz⟩ := bind2 hf
  obtain ⟨z, hy, rfl⟩ := map1 hz
  clear hz
  have hz := hy
  clear hy
  cases a with
  | lst ts =>
    obtain ⟨hlen, rfl⟩ := ite1 hz
    have hi' := slot_get ha
    obtain ⟨p', vs, h1, _, h2, h3, _, _⟩ := lst_at ok (Ex.refl H) ho hi'
    refine ⟨.ref p', h1, .inl ⟨rfl, vs, .of h2⟩, env, O, b, ok, hb, fun v H' e' r f => ?_⟩
    obtain ⟨p2, vs2, g1, g2, g3, g4, g5, g6⟩ := lst_at ok e' ho hi'
    rw [h1] at g1
    cases g1
    rw [h2] at g3
    cases g3
    obtain ⟨O', ok', st'⟩ := lst_new (ts' := ts ++ [b]) (us := [b]) (ws := [v]) (vs' := vs ++ [v]) ok e' ho hr hi' h1 g2 g6 (.one r) (by rw [List.length_append, List.length_singleton]; omega) (fun _ _ a b => a.append b)
    exact ⟨p', vs, v, rfl, rfl, g2, by rw [h3]; exact lim_lt hlen, q.go ok' st'⟩
  | _ => cases hz
theorem s_ext (hT : Tb X CL nm gv Φ) {i : Nat} {e : E} {pe : Expr} {x : Str} {p pa pc : Pos} (hi : X.N[i]? = some x) (hv : Vis X.env.scope x) (hd : (x == ("__debug__" : Str)) = false) (hcd : (x == ("__classdict__" : Str)) = false) (hs : isStar pe = false) (hl : (pa.endLine == pc.line) = true)
    (ho : fl.ow.contains i = true) (hr : (at_ fl e).ret.contains i = false) (he : PE X pe (RE X.K CL fl H0 (ev gv Φ e) (at_ fl e))) :
    PS X (.Expr (.Call (.Attribute (.Name x p) "extend" pa) [pe] [] pc) pos) (RS X.K CL Ew n fl (some (flSet (flDrop fl (at_ fl e).ret) i true ((at_ fl e).nw && fl.nw.contains i))) H0 (exec gv Φ W (.ext i e))) := by
  refine PS.imp (ps_expr (pe_bm PySem.F.plainAttrs_list PySem.F.slot_list_extend PySem.F.type_list_extend mt_extend (pv_of hi hv hd hcd) (pa_cons he pa_nil (star_ok hs)) rfl (few1 hs) hl (star_ok hs) rfl) rfl) fun D σ H hw => ?_
  obtain ⟨env, O, out, hn, ok, hf, q⟩ := hw
  simp only [exec] at hf
  obtain ⟨a, b, ha, hb, hz⟩ := bind2 hf
  obtain ⟨z, hy, rfl⟩ := map1 hz
  clear hz
  have hz := hy
  clear hy
  cases a with
  | lst ts => cases b with
    | lst us =>
      obtain ⟨hlen, rfl⟩ := ite1 hz
      have hi' := slot_get ha
      obtain ⟨p', vs, h1, _, h2, h3, _, _⟩ := lst_at ok (Ex.refl H) ho hi'
      refine ⟨.ref p', h1, .inl ⟨rfl, vs, .of h2⟩, env, O, _, ok, hb, fun v H' e' r f => ?_⟩
      obtain ⟨p2, vs2, g1, g2, g3, g4, g5, g6⟩ := lst_at ok e' ho hi'
      rw [h1] at g1
      cases g1
      rw [h2] at g3
      cases g3
      obtain ⟨b', ws, rfl, k1, _, k2, _⟩ := rep_lst r
      obtain ⟨O', ok', st'⟩ := lst_new (ts' := ts ++ us) (us := us) (ws := ws) (vs' := vs ++ ws) ok e' ho hr hi' h1 g2 g6 k2 (by rw [List.length_append]; omega) (fun _ _ a b => a.append b)
      exact ⟨p', b', vs, ws, rfl, rfl, g2, k1, by rw [h3, k2.len]; exact lim_line hlen, q.go ok' st'⟩
    | _ => cases hz
  | _ => cases hz
theorem s_ins (hT : Tb X CL nm gv Φ) {i : Nat} {k e : E} {pk pe : Expr} {x : Str} {p pa pc : Pos} (hi : X.N[i]? = some x) (hv : Vis X.env.scope x) (hd : (x == ("__debug__" : Str)) = false) (hcd : (x == ("__classdict__" : Str)) = false) (hs : isStar pe = false) (hsk : isStar pk = false) (hl : (pa.endLine == pc.line) = true)
    (ho : fl.ow.contains i = true) (hr : (at_ fl e).ret.contains i = false) (hk : PE X pk (RE X.K CL fl H0 (ev gv Φ k) (at_ fl k))) (he : PE X pe (RE X.K CL fl H0 (ev gv Φ e) (at_ fl e))) :
    PS X (.Expr (.Call (.Attribute (.Name x p) "insert" pa) [pk, pe] [] pc) pos) (RS X.K CL Ew n fl (some (flSet (flDrop fl (at_ fl e).ret) i true ((at_ fl e).nw && fl.nw.contains i))) H0 (exec gv Φ W (.ins i k e))) := by
  refine PS.imp (ps_expr (pe_bm PySem.F.plainAttrs_list PySem.F.slot_list_insert PySem.F.type_list_insert mt_insert (pv_of hi hv hd hcd) (pa_cons hk (pa_cons he pa_nil (star_ok hs)) (star_ok hsk)) rfl (few2 hs hsk) hl (star_ok hsk) (back_ok (by simp [hs]))) rfl) fun D σ H hw => ?_
  obtain ⟨env, O, out, hn, ok, hf, q⟩ := hw
  simp only [exec] at hf
  obtain ⟨a, c, ha, hc, hz⟩ := bind2 hf
  obtain ⟨b, hb, hz⟩ := bind1 hz
  obtain ⟨z, hy, rfl⟩ := map1 hz
  clear hz
  have hz := hy
  clear hy
  cases a with
  | lst ts => cases c with
    | int c =>
      obtain ⟨hlen, rfl⟩ := ite1 hz
      have hi' := slot_get ha
      obtain ⟨p', vs, h1, _, h2, h3, h4, _⟩ := lst_at ok (Ex.refl H) ho hi'
      refine ⟨.ref p', h1, .inl ⟨rfl, vs, .of h2⟩, env, O, _, ok, hc, fun w H1 e1 r1 _ => ⟨env, O, b, ok.exd e1, hb, fun v H' e' r f => ?_⟩⟩
      have r1' : w = .int c := r1
      subst r1'
      obtain ⟨p2, vs2, g1, g2, g3, g4, g5, g6⟩ := lst_at ok (e1.trans e') ho hi'
      rw [h1] at g1
      cases g1
      rw [h2] at g3
      cases g3
      obtain ⟨O', ok', st'⟩ := lst_new (ts' := ts.take c.toNat ++ b :: ts.drop c.toNat) (us := [b]) (ws := [v]) (vs' := vs.take c.toNat ++ [v] ++ vs.drop c.toNat) ok (e1.trans e') ho hr hi' h1 g2 g6 (.one r)
        (by rw [List.length_append, List.length_cons, List.length_take, List.length_drop]; omega) (fun _ _ a b => by
          rw [List.append_assoc]
          exact (a.take _).append (Reps.append b (a.drop _)))
      have hL : (LIM : Nat) = 1000000 := rfl
      exact ⟨p', vs, c, v, rfl, rfl, g2, by rw [h3]; exact lim_lt hlen.1, hlen.2.1, by omega, q.go ok' st'⟩
    | _ => cases hz
  | _ => cases hz
end
end Sb
namespace Sb
open PySem L2
open Evl (Ex Ex.refl Ex.trans Ex.new)
section
variable {X : Cx} {CL : Nat → Addr × List Str} {nm : Nm} {gv : Nat → Option Int} {Φ : Nat → List T → Option R} {fl : Fl} {H0 : Hp} {pos : Pos} {Ew : XK} {W n : Nat}
theorem s_put (hT : Tb X CL nm gv Φ) {i : Nat} {k e : E} {pk pe : Expr} {x : Str} {p ps : Pos} (hi : X.N[i]? = some x) (hv : Vis X.env.scope x) (hd : (x == ("__debug__" : Str)) = false) (hcd : (x == ("__classdict__" : Str)) = false) (hsl : isSlice pk = false) (hc : isCompr pe = false)
    (ho : fl.ow.contains i = true) (hr : (at_ fl e).ret.contains i = false) (hk : PE X pk (RE X.K CL fl H0 (ev gv Φ k) (at_ fl k))) (he : PE X pe (RE X.K CL fl H0 (ev gv Φ e) (at_ fl e))) :
    PS X (.Assign [.Subscript (.Name x p) pk ps] pe pos) (RS X.K CL Ew n fl (some (flSet (flDrop fl (at_ fl e).ret) i true ((at_ fl e).nw && fl.nw.contains i))) H0 (exec gv Φ W (.put i k e))) := by
  have hsub : ∀ v, assign (.Subscript (.Name x p) pk ps) X.env v = (do
      let ov ← holding [v] (eval (.Name x p) X.env)
      let iv ← holding [v, ov] (eval pk X.env)
      standAt ps
      holding [v, ov, iv] (setItem ov iv v)
      release [v, ov, iv] []) := by
    intro v
    cases pk <;> first | rfl | cases hsl
  have p1 : PS X (.Assign [.Subscript (.Name x p) pk ps] pe pos) (tAsg (RE X.K CL fl H0 (ev gv Φ e) (at_ fl e)) (gSub (tVar i) (RE X.K CL fl H0 (ev gv Φ k) (at_ fl k)) rSetL)) :=
    ps_asg he (pg_sub (pv_of hi hv hd hcd) hk set_list hsub) (show swapsWith pe (some (.Subscript (.Name x p) pk ps)) pos.line X.env = pure false from comp_ok hc) (by cases pe <;> rfl) rfl
  have p2 : PS X (.Assign [.Subscript (.Name x p) pk ps] pe pos) (sDPut (tVar i) (RE X.K CL fl H0 (ev gv Φ k) (at_ fl k)) (RE X.K CL fl H0 (ev gv Φ e) (at_ fl e))) :=
    ps_dput (by have := hT.room; omega) (pv_of hi hv hd hcd) hk he (comp_ok hc)
  refine ⟨fun pins s σ H D I hw => ?_⟩
  obtain ⟨env, O, out, hn, ok, hf, q⟩ := hw
  simp only [exec] at hf
  obtain ⟨b, a, hb, ha, hz⟩ := bind2 hf
  obtain ⟨c, hc', hz⟩ := bind1 hz
  obtain ⟨z, hy, rfl⟩ := map1 hz
  clear hz
  have hi' := slot_get ha
  cases a with
  | lst ts => cases c with
    | int c =>
      obtain ⟨j, hj, rfl⟩ := map1 (f := fun j => T.lst (ts.set j b)) hy
      refine p1.run pins s σ H D I ⟨env, O, b, ok, hb, fun v H1 e1 r1 f1 => ?_⟩
      obtain ⟨p', vs, h1, h2, h2', h3, h4, h5⟩ := lst_at ok e1 ho hi'
      refine ⟨.ref p', h1, env, O, _, ok.exd e1, hc', fun w H2 e2 r2 _ => ?_⟩
      have r2' : w = .int c := r2
      subst r2'
      obtain ⟨p2, vs2, g1, g2, g3, g4, g5, g6⟩ := lst_at ok (e1.trans e2) ho hi'
      rw [h1] at g1
      cases g1
      rw [h2'] at g3
      cases g3
      obtain ⟨O', ok', st'⟩ := lst_new (ts' := ts.set j b) (us := [b]) (ws := [v]) (vs' := vs.set j v) ok (e1.trans e2) ho hr hi' h1 g2 g6 (.one (r1.ex e2)) (by rw [List.length_set]; exact h4) (fun _ _ a b => by
        obtain ⟨_, _, e, b1, _⟩ := b
        cases e
        exact a.set j b1)
      exact ⟨p', vs, c, j, rfl, rfl, g2, by rw [h3]; exact hj, q.go ok' st'⟩
    | _ => cases hy
  | dct ks ts => cases c with
    | tup us =>
      obtain ⟨kk, hkk, hy⟩ := bind1 hy
      obtain ⟨hlen, rfl⟩ := ite1 hy
      refine p2.run pins s σ H D I ⟨env, O, b, ok, hb, fun v H1 e1 r1 f1 => ?_⟩
      obtain ⟨p', h1, hO, h2⟩ := ok.part ho hi' rfl
      refine ⟨.ref p', h1, env, O, _, ok.exd e1, hc', fun w H2 e2 r2 _ => ?_⟩
      obtain ⟨bk, rfl, hbk⟩ := rep_key r2 hkk
      obtain ⟨_, kvs, e3, _, h3, h4, h5, h6⟩ := h2
      cases e3
      have h3' : H2 p' = some (.dT kvs) := (e1.trans e2) p' _ h3
      have hss : ∀ b, SS O env σ (at_ fl e).ret H0 (at_ fl e).nw b → b ≠ p' := fun b hb z => by
        subst z
        rw [List.contains_iff_mem.mpr (hb.1 i hO)] at hr
        cases hr
      have g1 := (h6.ex (e1.trans e2)).keep (keep_upd (o' := .dT (putK kvs (kk.map Sum.inl) v)) (fun b hb => hb.2) h3' rfl) fun b (hb : (SlS O i (fl.nw.contains i) H0).but p' b) =>
        (show (fun b => (b = p' ∨ SlS O i (fl.nw.contains i) H0 b ∨ SS O env σ (at_ fl e).ret H0 (at_ fl e).nw b) ∧ b ≠ p') b from ⟨.inr (.inl hb.1), hb.2⟩)
      have g2 := (r1.ex e2).keep (keep_upd (o' := .dT (putK kvs (kk.map Sum.inl) v)) hss h3' rfl) fun b (hb : SS O env σ (at_ fl e).ret H0 (at_ fl e).nw b) =>
        (show (fun b => (b = p' ∨ SlS O i (fl.nw.contains i) H0 b ∨ SS O env σ (at_ fl e).ret H0 (at_ fl e).nw b) ∧ b ≠ p') b from ⟨.inr (.inr hb), hss b hb⟩)
      obtain ⟨k1, k2⟩ := dPut_rep (k := kk) g2 h5 g1
      obtain ⟨O', ok', st'⟩ := ok_mut (t := .dct ks ts) (t' := .dct (dPut ks ts kk b).1 (dPut ks ts kk b).2) ok (e1.trans e2) ho hr hi' rfl h1 rfl ⟨p', _, rfl, .inl rfl, upd_same, Nat.le_trans (dPut_len ks ts kk b) hlen, k1, k2⟩
      have hkl : kvs.length = ts.length := by have := h6.len; simpa using this
      exact ⟨p', _, rfl, DPut.t h3' hbk (by rw [hkl]; exact lim_lt hlen), q.go ok' st'⟩
    | _ => cases hy
  | _ => cases c <;> cases hy
theorem sw_subs {a b : Expr} {x y : Str} {p1 p2 p3 p4 p5 p6 : Pos} {k k2 : Nat} {vs : List Expr} {env : PySem.Env} : swappedStores [.Tuple [.Subscript (.Name x p1) a p2, .Subscript (.Name y p3) b p4] k p5] (.Tuple vs k2 p6) env = pure none := by
  rw [sw_form]
  split
  · rfl
  · split
    · rfl
    · rfl
theorem pu2T_inv {x q u w z : T} (h : pu2T x q u w = some z) : ∃ ts c j, x = .lst ts ∧ q = .int c ∧ imm u = true ∧ imm w = true ∧ ixN ts.length c = some j ∧ z = .lst (ts.set j u) := by
  match x, q, h with
  | .lst ts, .int c, h =>
    have h' : (if (imm u && imm w) = true then (ixN ts.length c).map fun j => T.lst (ts.set j u) else none) = some z := h
    by_cases hc : (imm u && imm w) = true
    · rw [if_pos hc] at h'
      rw [Bool.and_eq_true] at hc
      obtain ⟨j, hj, rfl⟩ := map1 h'
      exact ⟨ts, c, j, rfl, rfl, hc.1, hc.2, hj, rfl⟩
    · rw [if_neg hc] at h'; cases h'
theorem s_put2 (hT : Tb X CL nm gv Φ) {i : Nat} {k k' e e' : E} {pk pk' pe pe' : Expr} {x : Str} {p1 p2 p3 p4 p5 p6 : Pos} {kt kv : Nat} (hi : X.N[i]? = some x) (hv : Vis X.env.scope x) (hd : (x == ("__debug__" : Str)) = false) (hcd : (x == ("__classdict__" : Str)) = false) (hsl : isSlice pk = false) (hsl' : isSlice pk' = false)
    (hs : isStar pe = false) (hs' : isStar pe' = false) (ho : fl.ow.contains i = true) (hk : PE X pk (RE X.K CL fl H0 (ev gv Φ k) (at_ fl k)))
    (hk' : PE X pk' (RE X.K CL (flSet (flDrop fl []) i true (true && fl.nw.contains i)) H0 (ev gv Φ k') (at_ (flSet (flDrop fl []) i true (true && fl.nw.contains i)) k')))
    (he : PE X pe (RE X.K CL fl H0 (ev gv Φ e) (at_ fl e))) (he' : PE X pe' (RE X.K CL fl H0 (ev gv Φ e') (at_ fl e'))) :
    PS X (.Assign [.Tuple [.Subscript (.Name x p1) pk p2, .Subscript (.Name x p3) pk' p4] kt p5] (.Tuple [pe, pe'] kv p6) pos)
      (RS X.K CL Ew n fl (some (flSet (flDrop (flSet (flDrop fl []) i true (true && fl.nw.contains i)) []) i true (true && (flSet (flDrop fl []) i true (true && fl.nw.contains i)).nw.contains i))) H0 (exec gv Φ W (.put2 i k k' e e'))) := by
  have hsub : ∀ (pk : Expr) (p1 p2 : Pos), isSlice pk = false → ∀ v, assign (.Subscript (.Name x p1) pk p2) X.env v = (do
      let ov ← holding [v] (eval (.Name x p1) X.env)
      let iv ← holding [v, ov] (eval pk X.env)
      standAt p2
      holding [v, ov, iv] (setItem ov iv v)
      release [v, ov, iv] []) := by
    intro pk p1 p2 hsl v
    cases pk <;> first | rfl | cases hsl
  have htu := e_tup (pos := p6) (k := kv) (a_cons he (a_cons he' a_nil hs') hs)
  refine PS.imp (ps_asg htu (pg_tup hT.calm (pgs_cons (pg_sub (pv_of hi hv hd hcd) hk set_list (hsub pk p1 p2 hsl)) (pgs_cons (pg_sub (pv_of hi hv hd hcd) hk' set_list (hsub pk' p3 p4 hsl')) pgs_nil))) sws_tup sw_subs rfl) fun D σ H hw => ?_
  obtain ⟨env, O, out, hn, ok, hf, q⟩ := hw
  simp only [exec] at hf
  obtain ⟨u, u', hu, hu', hf⟩ := bind2 hf
  obtain ⟨x0, q0, hx0, hq0, hf⟩ := bind2 hf
  obtain ⟨z, hz, hf⟩ := bind1 hf
  obtain ⟨q1, hq1, hf⟩ := bind1 hf
  obtain ⟨z', hz', rfl⟩ := map1 hf
  obtain ⟨ts, c, j, rfl, rfl, im, im', hj, rfl⟩ := pu2T_inv hz
  obtain ⟨ts1, c', j', e1, rfl, _, _, hj', rfl⟩ := pu2T_inv hz'
  cases e1
  have hi' := slot_get hx0
  refine ⟨env, O, .tup [u, u'], ok, ?_, fun v H1 e1 r1 _ => ?_⟩
  · simp only [ev, evs, hu, hu', Option.bind_some, Option.map_some]
    rw [if_pos (by show 2 ≤ 1000000; omega)]
  obtain ⟨qa, xs, rfl, g1, g2, g3, _⟩ := rep_tup r1
  obtain ⟨w, w', rfl, w1, w2⟩ := reps2 g2
  refine ⟨qa, [w, w'], rfl, g1, rfl, w, [w'], rfl, ?_⟩
  obtain ⟨p', vs, h1, h2, h2', h3, h4, h5⟩ := lst_at ok e1 ho hi'
  refine ⟨.ref p', h1, env, O, _, ok.exd e1, hq0, fun w0 H2 e2 r2 _ => ?_⟩
  have r2' : w0 = .int c := r2
  subst r2'
  obtain ⟨p2, vs2, g1, g2, g3, g4, g5, g6⟩ := lst_at ok (e1.trans e2) ho hi'
  rw [h1] at g1
  cases g1
  rw [h2'] at g3
  cases g3
  obtain ⟨O', ok', st'⟩ := lst_new (a := imA) (ts' := ts.set j u) (us := [u]) (ws := [w]) (vs' := vs.set j w) ok (e1.trans e2) ho rfl hi' h1 g2 g6 (.one ((w1.imm im).ex e2)) (by rw [List.length_set]; exact h4) (fun _ _ a b => by
    obtain ⟨_, _, e, b1, _⟩ := b
    cases e
    exact a.set j b1)
  refine ⟨p', vs, c, j, rfl, rfl, g2, by rw [h3]; exact hj, w', [], rfl, ?_⟩
  have hilt : i < env.length := (List.getElem?_eq_some_iff.mp hi').1
  have hi1 : (env.set i (some (.lst (ts.set j u))))[i]? = some (some (.lst (ts.set j u))) := List.getElem?_set_self hilt
  have ho1 : (flSet (flDrop fl []) i true (true && fl.nw.contains i)).ow.contains i = true := by rw [flSet_ow, if_pos rfl]
  refine ⟨.ref p', h1, _, O', _, ok', hq1, fun w0 H3 e3 r3 _ => ?_⟩
  have r3' : w0 = .int c' := r3
  subst r3'
  obtain ⟨p3, vs3, k1, k2, k3, k4, k5, k6⟩ := lst_at ok' e3 ho1 hi1
  rw [h1] at k1
  cases k1
  have kw : Rep X.K CL (upd H2 p' (.lst (vs.set j w))) u' (SS O' (env.set i (some (.lst (ts.set j u)))) σ [] H0 true) w' :=
    ((w2.imm (S' := fun _ => False) im').ex e2).keep (keep_upd (fun b hb => hb.elim) g2 rfl) (fun b hb => hb.elim)
  obtain ⟨O2, ok2, st2⟩ := lst_new (a := imA) (ts' := (ts.set j u).set j' u') (us := [u']) (ws := [w']) (vs' := vs3.set j' w') ok' e3 ho1 rfl hi1 h1 k2 k6 (.one (kw.ex e3)) (by rw [List.length_set]; exact k5) (fun _ _ a b => by
    obtain ⟨_, _, e, b1, _⟩ := b
    cases e
    exact a.set j' b1)
  refine ⟨p', vs3, c', j', rfl, rfl, k2, by rw [k4]; exact hj', rfl, ?_⟩
  rw [List.set_set] at ok2
  exact q.go ok2 (st'.trans st2)
theorem flMeetO_none {a b : Option Fl} (h : flMeetO a b = none) : a = none ∧ b = none := by
  cases a with
  | none => exact ⟨rfl, h⟩
  | some a => cases b <;> cases h
mutual
theorem fl_nx : ∀ (s : S) {fl : Fl} {env env' : Env}, flS n s fl = some none → exec gv Φ W s env = some (.nx env') → False
  | .asg tg e, fl, env, env', h, _ => by simp [flS] at h
  | .par is es, fl, env, env', h, _ => by
    simp only [flS] at h
    split at h <;> cases h
  | .aug op i e, fl, env, env', h, _ => by simp [flS] at h
  | .app i e, fl, env, env', h, _ => by simp only [flS] at h; split at h <;> cases h
  | .ext i e, fl, env, env', h, _ => by simp only [flS] at h; split at h <;> cases h
  | .ins i k e, fl, env, env', h, _ => by simp only [flS] at h; split at h <;> cases h
  | .put i k e, fl, env, env', h, _ => by simp only [flS] at h; split at h <;> cases h
  | .iff c a b, fl, env, env', h, h2 => by
    simp only [flS] at h
    split at h
    · rename_i x y e1 e2
      obtain ⟨rfl, rfl⟩ := flMeetO_none (Option.some.inj h)
      simp only [exec] at h2
      obtain ⟨q, _, h2⟩ := bind1 h2
      cases q with
      | bl q =>
        cases q with
        | true => exact fls_nx a e1 h2
        | false => exact fls_nx b e2 h2
      | _ => cases h2
    · cases h
  | .for_ tg it b, fl, env, env', h, _ => by
    simp only [flS] at h
    obtain ⟨_, _, h⟩ := map1 h
    cases h
  | .whl c b, fl, env, env', h, _ => by
    simp only [flS] at h
    obtain ⟨_, _, h⟩ := map1 h
    cases h
  | .asgF i e, fl, env, env', h, _ => by simp only [flS] at h; split at h <;> cases h
  | .fro tg i b, fl, env, env', h, _ => by simp only [flS] at h; split at h <;> cases h
  | .lck i s, fl, env, env', h, _ => by
    simp only [flS] at h
    split at h
    · split at h <;> cases h
    · cases h
  | .ret m x, fl, env, env', _, h => by
    simp only [exec] at h
    obtain ⟨r, _, h⟩ := bind1 h
    cases r with
    | val t =>
      by_cases hm : m = 3
      · simp only [hm, if_true] at h; cases h
      · simp only [hm, if_false] at h; obtain ⟨_, z⟩ := ite1 h; cases z
    | exc c => cases h
    | wkv c => cases h
  | .exp x, fl, env, env', h, _ => by simp [flS] at h
  | .rse c, fl, env, env', _, h => by simp only [exec] at h; cases h
  | .put2 i k k' e e', fl, env, env', h, _ => by simp only [flS] at h; split at h <;> cases h
  | .rob m c o, fl, env, env', h, _ => by simp [flS] at h
  | .asgC i f es, fl, env, env', h, _ => by simp [flS] at h
  | .unp is j, fl, env, env', h, _ => by simp only [flS] at h; split at h <;> cases h
  | .fap i c e, fl, env, env', h, _ => by simp only [flS] at h; split at h <;> cases h
  | .kfa x i k, fl, env, env', h, _ => by simp only [flS] at h; split at h <;> cases h
  | .asgS i j k, fl, env, env', h, _ => by simp only [flS] at h; split at h <;> cases h
  | .pop j i, fl, env, env', h, _ => by simp only [flS] at h; split at h <;> cases h
theorem fls_nx : ∀ (s : SL) {fl : Fl} {env env' : Env}, flSs n s fl = some none → execs gv Φ W s env = some (.nx env') → False
  | .nil, fl, env, env', h, _ => by simp [flSs] at h
  | .cons s r, fl, env, env', h, h2 => by
    simp only [flSs] at h
    simp only [execs] at h2
    obtain ⟨o, h1, h2⟩ := bind1 h2
    cases o with
    | nx e1 =>
      split at h
      · cases h
      · rename_i q
        exact fl_nx s q h1
      · rename_i g q
        exact fls_nx r h h2
    | rt t => cases h2
    | ex c => cases h2
    | rw c => cases h2
end
theorem flMeet_ow {a b : Fl} {i : Nat} : (flMeet a b).ow.contains i = (a.ow.contains i && b.ow.contains i) := contains_filter
theorem flMeet_nw {a b : Fl} {i : Nat} : (flMeet a b).nw.contains i = (a.nw.contains i && b.nw.contains i) := contains_filter
theorem flMeet_dp {a b : Fl} {i : Nat} : (flMeet a b).dp.contains i = (a.dp.contains i && b.dp.contains i) := by
  unfold flMeet; rw [contains_filter]
theorem En.weak {K : PySem.W.Frag} {O : AR} {H : Hp} {D : Ends} {out : Out} {r r' : Option Fl} (h : En K CL Ew n r' H0 O H D out) (hn : ∀ env', out = .nx env' → ∃ g, r = some g ∧ ∀ f, r' = some f → (∀ i, f.ow.contains i = true → g.ow.contains i = true) ∧ (∀ i, f.nw.contains i = true → g.nw.contains i = true) ∧ ∀ i, f.dp.contains i = true → g.dp.contains i = true) :
    En K CL Ew n r H0 O H D out := by
  refine ⟨fun env' z => ?_, h.rt, h.ex, h.rw⟩
  obtain ⟨g, e, k⟩ := hn env' z
  obtain ⟨f, e', k'⟩ := h.nx env' z
  obtain ⟨h1, h2, h3⟩ := k f e'
  refine ⟨g, e, fun σ' H' O' ok st => ?_⟩
  obtain ⟨O2, ok2, st2⟩ := ok_weak (fl' := f) ok h1 h2 h3
  exact k' σ' H' O2 ok2 (st.trans st2)
theorem s_iff {c : E} {a b : SL} {pc : Expr} {pa pb : List Stmt} {x y : Option Fl} (hx : flSs n a fl = some x) (hy : flSs n b fl = some y) (hc : PT X pc (RT X.K CL fl H0 (ev gv Φ c))) (ha : PSs X pa (RS X.K CL Ew n fl x H0 (execs gv Φ W a))) (hb : PSs X pb (RS X.K CL Ew n fl y H0 (execs gv Φ W b))) :
    PS X (.If pc pa pb pos) (RS X.K CL Ew n fl (flMeetO x y) H0 (exec gv Φ W (.iff c a b))) := by
  refine PS.imp (ps_if hc ha hb) fun D σ H hw => ?_
  obtain ⟨env, O, out, hn, ok, hf, q⟩ := hw
  simp only [exec] at hf
  obtain ⟨k, hk, hz⟩ := bind1 hf
  cases k with
  | bl k =>
    cases k with
    | true =>
      refine ⟨env, O, true, ok, hk, fun H1 e1 => iteT ⟨env, O, out, hn, ok.exd e1, hz, ?_⟩⟩
      have q1 : En X.K CL Ew n (flMeetO x y) H0 O H1 D out := ⟨fun env' z => by
        obtain ⟨f, e, k⟩ := q.nx env' z
        exact ⟨f, e, fun σ' H' O' o s => k σ' H' O' o ((Step.ex e1 fun _ z => .inl z).trans s)⟩, q.rt, q.ex, q.rw⟩
      refine q1.weak fun env' z => ?_
      cases x with
      | none => subst z; exact (fls_nx a hx hz).elim
      | some g => exact ⟨g, rfl, fun f hf => by
          cases y with
          | none => cases hf; exact ⟨fun _ z => z, fun _ z => z, fun _ z => z⟩
          | some g' =>
            cases hf
            exact ⟨fun i z => by rw [flMeet_ow, Bool.and_eq_true] at z; exact z.1, fun i z => by rw [flMeet_nw, Bool.and_eq_true] at z; exact z.1, fun i z => by rw [flMeet_dp, Bool.and_eq_true] at z; exact z.1⟩⟩
    | false =>
      refine ⟨env, O, false, ok, hk, fun H1 e1 => iteF ⟨env, O, out, hn, ok.exd e1, hz, ?_⟩⟩
      have q1 : En X.K CL Ew n (flMeetO x y) H0 O H1 D out := ⟨fun env' z => by
        obtain ⟨f, e, k⟩ := q.nx env' z
        exact ⟨f, e, fun σ' H' O' o s => k σ' H' O' o ((Step.ex e1 fun _ z => .inl z).trans s)⟩, q.rt, q.ex, q.rw⟩
      refine q1.weak fun env' z => ?_
      cases y with
      | none => subst z; exact (fls_nx b hy hz).elim
      | some g => exact ⟨g, rfl, fun f hf => by
          cases x with
          | none => cases hf; exact ⟨fun _ z => z, fun _ z => z, fun _ z => z⟩
          | some g' =>
            cases hf
            exact ⟨fun i z => by rw [flMeet_ow, Bool.and_eq_true] at z; exact z.2, fun i z => by rw [flMeet_nw, Bool.and_eq_true] at z; exact z.2, fun i z => by rw [flMeet_dp, Bool.and_eq_true] at z; exact z.2⟩⟩
  | _ => cases hz
theorem ss_nil : PSs X [] (RS X.K CL Ew n fl (some fl) H0 (execs gv Φ W .nil)) := by
  refine PSs.imp pss_nil fun D σ H hw => ?_
  obtain ⟨env, O, out, hn, ok, hf, q⟩ := hw
  simp only [execs] at hf
  cases hf
  exact q.go ok Step.refl
theorem ss_cons {s : S} {r : SL} {st : Stmt} {rest : List Stmt} {g : Fl} {r2 : Option Fl} (h1 : PS X st (RS X.K CL Ew n fl (some g) H0 (exec gv Φ W s))) (h2 : PSs X rest (RS X.K CL Ew n g r2 H0 (execs gv Φ W r))) :
    PSs X (st :: rest) (RS X.K CL Ew n fl r2 H0 (execs gv Φ W (.cons s r))) := by
  refine PSs.imp (pss_cons h1 h2) fun D σ H hw => ?_
  obtain ⟨env, O, out, hn, ok, hf, q⟩ := hw
  simp only [execs] at hf
  obtain ⟨o, ho, hz⟩ := bind1 hf
  refine ⟨env, O, o, hn, ok, ho, ?_⟩
  cases o with
  | nx e1 =>
    refine En.next fun σ' H' O' ok' st' => ?_
    refine ⟨e1, O', out, by rw [exec_len gv Φ W s ho]; exact hn, ok', hz, ⟨fun env' z => ?_, q.rt, q.ex, q.rw⟩⟩
    obtain ⟨f, e, k⟩ := q.nx env' z
    exact ⟨f, e, fun σ2 H2 O2 ok2 st2 => k σ2 H2 O2 ok2 (st'.trans st2)⟩
  | rt t => cases hz; exact ⟨(fun _ z => nomatch z), q.rt, q.ex, q.rw⟩
  | ex c => cases hz; exact ⟨(fun _ z => nomatch z), q.rt, q.ex, q.rw⟩
  | rw c => cases hz; exact ⟨(fun _ z => nomatch z), q.rt, q.ex, q.rw⟩
theorem ss_end {s : S} {r : SL} {st : Stmt} {rest : List Stmt} (hn : flS n s fl = some none) (h1 : PS X st (RS X.K CL Ew n fl none H0 (exec gv Φ W s))) :
    PSs X (st :: rest) (RS X.K CL Ew n fl none H0 (execs gv Φ W (.cons s r))) := by
  refine PSs.imp (pss_cons h1 (pss_never (sts := rest))) fun D σ H hw => ?_
  obtain ⟨env, O, out, hl, ok, hf, q⟩ := hw
  simp only [execs] at hf
  obtain ⟨o, ho, hz⟩ := bind1 hf
  refine ⟨env, O, o, hl, ok, ho, ?_⟩
  cases o with
  | nx e1 => exact (fl_nx s hn ho).elim
  | rt t => cases hz; exact ⟨(fun _ z => nomatch z), q.rt, q.ex, q.rw⟩
  | ex c => cases hz; exact ⟨(fun _ z => nomatch z), q.rt, q.ex, q.rw⟩
  | rw c => cases hz; exact ⟨(fun _ z => nomatch z), q.rt, q.ex, q.rw⟩
theorem s_exp {x : XE} {pe : Expr} (hc : isCompr pe = false) (he : PE X pe (RX X.K CL Ew fl H0 (evx gv Φ x) (atx fl x))) : PS X (.Expr pe pos) (RS X.K CL Ew n fl (some fl) H0 (exec gv Φ W (.exp x))) := by
  refine PS.imp (ps_expr he (comp_ok hc)) fun D σ H hw => ?_
  obtain ⟨env, O, out, hn, ok, hf, q⟩ := hw
  simp only [exec] at hf
  obtain ⟨r, hr, hz⟩ := bind1 hf
  refine ⟨env, O, r, ok, hr, fun t et v H' e' r' f' => ?_, fun c ec => ?_⟩
  · subst et
    cases hz
    exact q.go (ok.exd e') (Step.ex e' fun _ z => .inl z)
  · subst ec
    cases hz
    exact q.ex c rfl
theorem flat_fresh {K : PySem.W.Frag} {H' : Hp} {t : T} {S : AS} {v : V} (h : flat t = true) (f : mutR t = true → ∃ p, v = .ref p ∧ H0 p = none) (r : Rep K CL H' t S v) : Rep K CL H' t (fun a => H0 a = none) v := by
  cases t with
  | lst ts =>
    obtain ⟨a, vs, e1, h1, h2, h3, h4⟩ := r
    obtain ⟨p, e2, h5⟩ := f rfl
    subst e1
    cases e2
    exact ⟨a, vs, rfl, h5, h2, h3, h4.imm h⟩
  | dct ks ts =>
    obtain ⟨a, vs, e1, h1, h2, h3, h4, h6⟩ := r
    obtain ⟨p, e2, h5⟩ := f rfl
    subst e1
    cases e2
    exact ⟨a, vs, rfl, h5, h2, h3, h4, h6.imm h⟩
  | obj c ts =>
    obtain ⟨a, dx, fs, e1, h1, h2, h3, h4⟩ := r
    obtain ⟨p, e2, h5⟩ := f rfl
    subst e1
    cases e2
    exact ⟨a, dx, fs, rfl, h5, h2, h3, h4.imm h⟩
  | _ => exact r.imm h
theorem s_ret {m : Nat} {x : XE} {pe : Expr} (hm : (if m = 0 then (atx fl x).nw else if m = 1 then (atx fl x).fr else true) = true) (he : PE X pe (RX X.K CL Ew fl H0 (evx gv Φ x) (atx fl x))) :
    PS X (.Return (some pe) pos) (RS X.K CL Ew n fl none H0 (exec gv Φ W (.ret m x))) := by
  refine PS.imp (ps_ret he) fun D σ H hw => ?_
  obtain ⟨env, O, out, hn, ok, hf, q⟩ := hw
  simp only [exec] at hf
  obtain ⟨r, hr, hz⟩ := bind1 hf
  refine ⟨env, O, r, ok, hr, fun t et v H' e' r' f' => ?_, fun c ec => ?_⟩
  · subst et
    by_cases h3 : m = 3
    · simp only [h3, if_true] at hz
      cases hz
      exact q.rw t rfl v H' _ (ok.ex.trans e') r'
    simp only [h3, if_false] at hz
    obtain ⟨hc, rfl⟩ := ite1 hz
    refine q.rt t rfl v H' (ok.ex.trans e') ?_
    by_cases h0 : m = 0
    · rw [if_pos h0] at hm
      exact r'.mono fun b hb => hb.2 hm
    · rw [if_neg h0] at hm hc
      by_cases h1 : m = 1
      · rw [if_pos h1] at hm hc
        exact flat_fresh hc (fun m => let ⟨p, e1, e2⟩ := f' hm m; ⟨p, e1, ex_none ok.ex e2⟩) r'
      · rw [if_neg h1] at hc
        exact r'.imm hc
  · subst ec
    cases hz
    exact q.ex c rfl
theorem s_retv {i : Nat} {pe : Expr} (ho : fl.ow.contains i = true) (he : PE X pe (tVar i)) : PS X (.Return (some pe) pos) (RS X.K CL Ew n fl none H0 (exec gv Φ W (.ret 1 (.pure (.var i))))) := by
  refine PS.imp (ps_ret he) fun D σ H hw => ?_
  obtain ⟨env, O, out, hn, ok, hf, q⟩ := hw
  simp only [exec, evx] at hf
  obtain ⟨r, hr, hz⟩ := bind1 hf
  obtain ⟨t, ht, rfl⟩ := map1 hr
  obtain ⟨hc, rfl⟩ := ite1 hz
  have ht' : env[i]? = some (some t) := by simpa [ev, Option.join_eq_some_iff] using ht
  obtain ⟨v, h1, h2, h3⟩ := ok.sl i t ht'
  refine ⟨v, h1, q.rt t rfl v H ok.ex ?_⟩
  have hc : flat t = true := by simpa using hc
  exact flat_fresh hc (fun m => let ⟨p, e1, e2⟩ := h3 ho m; ⟨p, e1, ok.of_ i p e2⟩) h2
theorem s_rse (hT : Tb X CL nm gv Φ) (hX : Tx X CL nm Ew) {c : Nat} {x m : Str} {j : Nat} {p p2 p3 : Pos} (h20 : c < 20) (hc : nm.cl c = x) (hne : x ≠ "") (hg : Gl X x) (hd : (x == ("__debug__" : Str)) = false) :
    PS X (.Raise (some (.Call (.Name x p) [.Constant (.str m) j p2] [] p3)) none pos) (RS X.K CL Ew n fl none H0 (exec gv Φ W (.rse c))) := by
  refine PS.imp (ps_raise hT.calm hX.tk (hX.mkx c x m j p p2 p3 h20 hc hne hg hd)) fun D σ H hw => ?_
  obtain ⟨env, O, out, hn, ok, hf, q⟩ := hw
  simp only [exec] at hf
  cases hf
  exact q.ex c rfl H ok.ex
theorem flLe_ow {a b : Fl} (h : flLe a b = true) : (∀ i, b.ow.contains i = true → a.ow.contains i = true) ∧ (∀ i, b.nw.contains i = true → a.nw.contains i = true) ∧ ∀ i, b.dp.contains i = true → a.dp.contains i = true := by
  unfold flLe at h
  rw [Bool.and_eq_true, Bool.and_eq_true, List.all_eq_true, List.all_eq_true, List.all_eq_true] at h
  exact ⟨fun i z => h.1.1 i (List.contains_iff_mem.mp z), fun i z => h.1.2 i (List.contains_iff_mem.mp z), fun i z => h.2 i (List.contains_iff_mem.mp z)⟩
theorem fix3_ok {F : Fl → Option (Option Fl)} : ∀ {k : Nat} {fl f : Fl}, fix3 F fl k = some f → ((∀ i, f.ow.contains i = true → fl.ow.contains i = true) ∧ (∀ i, f.nw.contains i = true → fl.nw.contains i = true) ∧ ∀ i, f.dp.contains i = true → fl.dp.contains i = true) ∧ (F f = some none ∨ ∃ g, F f = some (some g) ∧ flLe g f = true)
  | 0, _, _, h => by cases h
  | k + 1, fl, f, h => by
    unfold fix3 at h
    split at h
    · cases h
    · rename_i e
      cases h
      exact ⟨⟨fun _ z => z, fun _ z => z, fun _ z => z⟩, .inl e⟩
    · rename_i g e
      split at h
      · rename_i c
        cases h
        exact ⟨⟨fun _ z => z, fun _ z => z, fun _ z => z⟩, .inr ⟨g, e, c⟩⟩
      · obtain ⟨⟨h1, h2, h4⟩, h3⟩ := fix3_ok h
        exact ⟨⟨fun i z => by have := h1 i z; rw [flMeet_ow, Bool.and_eq_true] at this; exact this.1, fun i z => by have := h2 i z; rw [flMeet_nw, Bool.and_eq_true] at this; exact this.1, fun i z => by have := h4 i z; rw [flMeet_dp, Bool.and_eq_true] at this; exact this.1⟩, h3⟩
theorem flDrop_nil (fl : Fl) : flDrop fl [] = fl := by
  cases fl with
  | mk a b c =>
    unfold flDrop
    congr 1
    exact List.filter_eq_self.mpr fun _ _ => rfl
theorem flSetT_drop (fl : Fl) (tg : Tg) (nw : Bool) : flSetT (flDrop fl []) tg false nw = flSetT fl tg false nw := by rw [flDrop_nil]
theorem s_for (hT : Tb X CL nm gv Φ) (hX : Tx X CL nm Ew) {tg : Tg} {it : It} {b : SL} {ptg pit : Expr} {pb : List Stmt} {f : Fl} {r : Option Fl} (hf : fix3 (fun f => flSs n b (flSetT f tg false (ati fl it).nw)) (flDrop fl (ati fl it).ret) 4 = some f)
    (hr : flSs n b (flSetT f tg false (ati fl it).nw) = some r) (hi : PI X ptg pit (RI X.K CL fl H0 (evi gv Φ it) (ati fl it))) (hs : isSet pit = false) (hg : tgC X.N X.env.scope (fun _ => true) tg ptg = true)
    (hb : PSs X pb (RS X.K CL Ew n (flSetT f tg false (ati fl it).nw) r H0 (execs gv Φ W b))) :
    PS X (.For ptg pit pb [] pos) (RS X.K CL Ew n fl (some f) H0 (exec gv Φ W (.for_ tg it b))) := by
  refine PS.imp (ps_for hX.own hT.calm hi (g_tg (CL := CL) hT.nd hT.calm hg fun x _ => hX.fn x) hb (set_ok hs)) fun D σ H hw => ?_
  obtain ⟨env, O, out, hn, ok, hx, q⟩ := hw
  simp only [exec] at hx
  obtain ⟨ts, hts, hx⟩ := bind1 hx
  refine ⟨env, O, ts, ok, hts, fun hlim J H1 e1 jw => ?_⟩
  obtain ⟨⟨f1, f2⟩, f3⟩ := fix3_ok hf
  rw [hr] at f3
  -- the flags of the loop
  have okd := ok.exd e1
  have hOW := ok_res (fl' := f) okd (fun i z => by have := f1 i z; rw [flDrop_ow, Bool.and_eq_true] at this; exact this.1) (fun i z => f2.1 i z) (fun i z => f2.2 i z)
  generalize hol : (fun (g : Nat) (b : Addr) => O g b ∧ f.ow.contains g = true) = Ol at hOW
  -- the regions of the loop are not what is walked
  have hS : ∀ b, (SS O env σ (ati fl it).ret H0 (ati fl it).nw b ∧ H1 b ≠ none) → ¬ uni Ol b := fun b hb ob => by
    rw [← hol] at ob
    obtain ⟨k, z1, z2⟩ := ob
    have := f1 k z2
    rw [flDrop_ow, Bool.and_eq_true, List.contains_iff_mem.mpr (hb.1.1 k z1)] at this
    cases this.2
  have hZ : ∀ b o, H1 b = some o → frzO o = true → ¬ uni Ol b := fun b o h1 h2 ob => by
    obtain ⟨k, ob⟩ := ob
    rw [hOW.fz k b o ob h1] at h2
    cases h2
  refine ⟨fun i m σ' H' => m = ts.length - i ∧ i ≤ ts.length ∧ ∃ env' O', env'.length = n ∧ Ok X.K CL H0 f env' σ' H' O' ∧ Step (uni Ol) H1 (uni O') H' ∧ forL (fun t env => bindT tg t env) (fun env => execs gv Φ W b env) (ts.drop i) env' = some out,
    ⟨ts.length, by simp, Nat.zero_le _, env, Ol, hn, hOW, Step.refl, by simpa using hx⟩, ?_⟩
  rintro i m σ' H' ⟨rfl, hile, env', O', hn', ok', st', hx'⟩
  have kp : Keep (fun b => SS O env σ (ati fl it).ret H0 (ati fl it).nw b ∧ H1 b ≠ none) H1 H' := fun a o h1 h2 => st'.keep a o h1 (h2.elim (hS a) (hZ a o h1))
  obtain ⟨jgo, jst⟩ := jw H' kp i
  by_cases hlt : i < ts.length
  · right
    have ht : ts[i]? = some ts[i] := List.getElem?_eq_getElem hlt
    obtain ⟨g1, g2⟩ := jgo _ ht
    refine ⟨g1, fun σ2 H2 => ∃ env2 O2, env2.length = n ∧ Ok X.K CL H0 f env2 σ2 H2 O2 ∧ Step (uni Ol) H1 (uni O2) H2 ∧ forL (fun t env => bindT tg t env) (fun env => execs gv Φ W b env) (ts.drop (i + 1)) env2 = some out,
      fun σ2 H2 z => ⟨ts.length - (i + 1), by omega, rfl, hlt, z⟩, fun x H2 y => ?_⟩
    obtain ⟨e2, rx⟩ := g2 x H2 y
    rw [List.drop_eq_getElem_cons hlt] at hx'
    obtain ⟨env1, hb1, hx'⟩ := bind1 hx'
    obtain ⟨o, ho, hx'⟩ := bind1 hx'
    have rx' : Rep X.K CL H2 ts[i] (SS O' env' σ' (⟨[], (ati fl it).nw, false⟩ : At).ret H0 (ati fl it).nw) x := rx.mono fun c hc => ⟨fun g oc => by
      rcases st'.own c ⟨g, oc⟩ with z | z
      · exact (hS c hc z).elim
      · exact absurd z hc.2, hc.1.2⟩
    refine tg_ok (a := ⟨[], (ati fl it).nw, false⟩) ok' e2 rx' hb1 fun σ3 O3 ok3 st3 => ?_
    rw [flSetT_drop] at ok3
    refine ⟨env1, O3, o, by rw [bindT_len hb1]; exact hn', ok3, ho, ?_⟩
    cases o with
    | nx env2 =>
      refine ⟨fun env3 z => ?_, (fun _ z => nomatch z), (fun _ z => nomatch z), (fun _ z => nomatch z)⟩
      cases z
      rcases f3 with f3 | ⟨g, f3, f4⟩
      · cases f3
        exact (fls_nx b hr ho).elim
      · cases f3
        refine ⟨g, rfl, fun σ4 H4 O4 ok4 st4 => ?_⟩
        obtain ⟨O5, ok5, st5⟩ := ok_weak (fl' := f) ok4 (flLe_ow f4).1 (flLe_ow f4).2.1 (flLe_ow f4).2.2
        exact ⟨env2, O5, by rw [execs_len gv Φ W b ho, bindT_len hb1]; exact hn', ok5, ((st'.trans st3).trans st4).trans st5, hx'⟩
    | rt t => cases hx'; exact ⟨(fun _ z => nomatch z), q.rt, q.ex, q.rw⟩
    | ex c => cases hx'; exact ⟨(fun _ z => nomatch z), q.rt, q.ex, q.rw⟩
    | rw c => cases hx'; exact ⟨(fun _ z => nomatch z), q.rt, q.ex, q.rw⟩
  · left
    have hi2 : i = ts.length := by omega
    subst hi2
    refine ⟨jst (Nat.le_refl _), ?_⟩
    rw [List.drop_length] at hx'
    cases hx'
    have st0 : Step (uni O) H (uni Ol) H1 := Step.ex e1 fun c hc => by
      rw [← hol] at hc
      obtain ⟨k, z1, _⟩ := hc
      exact .inl ⟨k, z1⟩
    exact q.go ok' (st0.trans st')
theorem s_whl (hT : Tb X CL nm gv Φ) (hX : Tx X CL nm Ew) {c : E} {b : SL} {pc : Expr} {pb : List Stmt} {f : Fl} {r : Option Fl} (hf : fix3 (fun f => flSs n b f) fl 4 = some f)
    (hr : flSs n b f = some r) (hc : PT X pc (RT X.K CL f H0 (ev gv Φ c))) (hb : PSs X pb (RS X.K CL Ew n f r H0 (execs gv Φ W b))) :
    PS X (.While pc pb [] pos) (RS X.K CL Ew n fl (some f) H0 (exec gv Φ W (.whl c b))) := by
  refine PS.imp (ps_while hX.own hc hb) fun D σ H hw => ?_
  obtain ⟨env, O, out, hn, ok, hx, q⟩ := hw
  simp only [exec] at hx
  obtain ⟨⟨f1, f2⟩, f3⟩ := fix3_ok hf
  rw [hr] at f3
  obtain ⟨Oi, oki, sti⟩ := ok_weak (fl' := f) ok f1 f2.1 f2.2
  refine ⟨fun m σ' H' => ∃ env' O', env'.length = n ∧ Ok X.K CL H0 f env' σ' H' O' ∧ Step (uni Oi) H (uni O') H' ∧ whlL (fun env => ev gv Φ c env) (fun env => execs gv Φ W b env) m env' = some out, ⟨W, env, Oi, hn, oki, Step.refl, hx⟩, ?_⟩
  rintro m σ' H' ⟨env', O', hn', ok', st', hx'⟩
  cases m with
  | zero => cases hx'
  | succ m =>
    obtain ⟨k, hk, hx'⟩ := bind1 hx'
    cases k with
    | bl k =>
      cases k with
      | true =>
        refine ⟨env', O', true, ok', hk, fun H2 e2 => iteT ?_⟩
        obtain ⟨o, ho, hx'⟩ := bind1 hx'
        refine ⟨fun σ2 H2 => ∃ env2 O2, env2.length = n ∧ Ok X.K CL H0 f env2 σ2 H2 O2 ∧ Step (uni Oi) H (uni O2) H2 ∧ whlL (fun env => ev gv Φ c env) (fun env => execs gv Φ W b env) m env2 = some out, fun σ2 H2 z => ⟨m, Nat.lt_succ_self m, z⟩, ?_⟩
        refine ⟨env', O', o, hn', ok'.exd e2, ho, ?_⟩
        cases o with
        | nx env2 =>
          refine ⟨fun env3 z => ?_, (fun _ z => nomatch z), (fun _ z => nomatch z), (fun _ z => nomatch z)⟩
          cases z
          rcases f3 with f3 | ⟨g, f3, f4⟩
          · cases f3
            exact (fls_nx b hr ho).elim
          · cases f3
            refine ⟨g, rfl, fun σ4 H4 O4 ok4 st4 => ?_⟩
            obtain ⟨O5, ok5, st5⟩ := ok_weak (fl' := f) ok4 (flLe_ow f4).1 (flLe_ow f4).2.1 (flLe_ow f4).2.2
            exact ⟨env2, O5, by rw [execs_len gv Φ W b ho]; exact hn', ok5, ((st'.trans (Step.ex e2 fun _ z => .inl z)).trans st4).trans st5, hx'⟩
        | rt t => cases hx'; exact ⟨(fun _ z => nomatch z), q.rt, q.ex, q.rw⟩
        | ex c => cases hx'; exact ⟨(fun _ z => nomatch z), q.rt, q.ex, q.rw⟩
        | rw c => cases hx'; exact ⟨(fun _ z => nomatch z), q.rt, q.ex, q.rw⟩
      | false =>
        cases hx'
        refine ⟨env', O', false, ok', hk, fun H2 e2 => iteF ?_⟩
        exact q.go (ok'.exd e2) ((sti.trans st').trans (Step.ex e2 fun _ z => .inl z))
    | _ => cases hx'
end
end Sb
namespace Sb
open PySem L2
open Evl (Ex Ex.refl Ex.trans Ex.new)
section
variable {K : PySem.W.Frag} {CL : Nat → Addr × List Str} {H0 H H' H1 : Hp} {fl fl' : Fl} {env env' : Env} {σ σ' : L2.St} {O O' : AR}
mutual
/-- only what may be written is in a tree's set -/
theorem Rep.hot : ∀ {t : T} {S : AS} {v : V}, Rep K CL H t S v → Rep K CL H t (fun a => S a ∧ ∃ o, H a = some o ∧ frzO o = false) v
  | .non, _, _, h => h
  | .bl _, _, _, h => h
  | .int _, _, _, h => h
  | .str _, _, _, h => h
  | .tup ts, S, v, h => by
    obtain ⟨a, vs, e, h1, h2, h3⟩ := h
    exact ⟨a, vs, e, h1, h2, Reps.hot h3⟩
  | .lst ts, S, v, h => by
    obtain ⟨a, vs, e, h0, h1, h2, h3⟩ := h
    exact ⟨a, vs, e, ⟨h0, _, h1, rfl⟩, h1, h2, (Reps.hot h3).mono fun b q => ⟨⟨q.1.1, q.2⟩, q.1.2⟩⟩
  | .scr ns, S, v, h => h
  | .dct ks ts, S, v, h => by
    obtain ⟨a, kvs, e, h0, h1, h2, h3, h4⟩ := h
    exact ⟨a, kvs, e, ⟨h0, _, h1, rfl⟩, h1, h2, h3, (Reps.hot h4).mono fun b q => ⟨⟨q.1.1, q.2⟩, q.1.2⟩⟩
  | .obj c ts, S, v, h => by
    obtain ⟨a, dx, fs, e, h0, h1, h3, h4⟩ := h
    exact ⟨a, dx, fs, e, ⟨h0, _, h1, rfl⟩, h1, h3, (Reps.hot h4).mono fun b q => ⟨⟨q.1.1, q.2⟩, q.1.2⟩⟩
  | .unk, _, _, _ => trivial
  | .fdc ks ts, S, v, h => by
    obtain ⟨a, kvs, o, e, h1, h2, h3, h4⟩ := h
    exact ⟨a, kvs, o, e, h1, h2, h3, Reps.hot h4⟩
theorem Reps.hot : ∀ {ts : List T} {S : AS} {vs : List V}, Reps K CL H ts S vs → Reps K CL H ts (fun a => S a ∧ ∃ o, H a = some o ∧ frzO o = false) vs
  | [], _, _, h => h
  | t :: ts, S, vs, h => by
    obtain ⟨v, r, e, h1, h2⟩ := h
    exact ⟨v, r, e, Rep.hot h1, Reps.hot h2⟩
end
theorem root_ref {t : T} {S : AS} {v : V} (r : Rep K CL H t S v) (m : mutR t = true) : ∃ a, v = .ref a ∧ S a := by
  cases t with
  | lst ts => obtain ⟨b, vs, e, h0, _⟩ := r; exact ⟨b, e, h0⟩
  | dct ks ts => obtain ⟨b, vs, e, h0, _⟩ := r; exact ⟨b, e, h0⟩
  | obj c ts => obtain ⟨b, dx, fs, e, h0, _⟩ := r; exact ⟨b, e, h0⟩
  | _ => cases m
theorem imm_mut {t : T} (h : imm t = true) : mutR t = false := by
  cases t <;> first | rfl | cases h
theorem flSetD_ow {fl : Fl} {i j : Nat} : (flSetD fl i).ow.contains j = if j = i then true else fl.ow.contains j := flSet_ow (n := true)
theorem flSetD_nw {fl : Fl} {i j : Nat} : (flSetD fl i).nw.contains j = if j = i then true else fl.nw.contains j := flSet_nw (o := true)
theorem flSetD_dp {fl : Fl} {i j : Nat} (h : (flSetD fl i).dp.contains j = true) : j = i ∨ (j ≠ i ∧ fl.dp.contains j = true) := by
  unfold flSetD at h
  rw [List.contains_cons, Bool.or_eq_true] at h
  rcases h with h | h
  · exact .inl (by simpa using h)
  · exact .inr (flSet_dp h)
/-- a wholly new value is stored -/
theorem ok_setD {t : T} {v : V} (i : Nat) (ok : Ok K CL H0 fl env σ H O) (e : Ex H H') (r : Rep K CL H' t (fun b => H b = none) v) :
    ∃ O', Ok K CL H0 (flSetD fl i) (env.set i (some t)) (σ.set i (some v)) H' O' ∧ Step (uni O) H (uni O') H' := by
  have hl := ok.len
  have gete : ∀ {j : Nat}, j ≠ i → (env.set i (some t))[j]? = env[j]? := fun {j} hn => List.getElem?_set_ne (Ne.symm hn)
  have gets : ∀ {j : Nat}, j ≠ i → (σ.set i (some v))[j]? = σ[j]? := fun {j} hn => List.getElem?_set_ne (Ne.symm hn)
  have geti : ∀ {u : T}, (env.set i (some t))[i]? = some (some u) → u = t ∧ (σ.set i (some v))[i]? = some (some v) := fun {u} h => by
    have hi : i < env.length := by
      have := (List.getElem?_eq_some_iff.mp h).1
      simpa using this
    rw [List.getElem?_set_self hi] at h
    cases h
    exact ⟨rfl, List.getElem?_set_self (by omega)⟩
  have rh := r.hot
  refine ⟨fun g b => (g ≠ i ∧ O g b) ∨ (g = i ∧ H b = none ∧ ∃ o, H' b = some o ∧ frzO o = false), ⟨by simp [hl], ok.ex.trans e, fun g b hb => ?_, fun g b hb => ?_, fun g k b h1 h2 => ?_, fun g b o hb hz => ?_, fun j u hj => ?_, fun j u w h1 h2 h3 h4 => ?_⟩, Step.ex e fun b hb => ?_⟩
  · rcases hb with ⟨_, hb⟩ | ⟨_, hb, _⟩
    · exact ok.of_ g b hb
    · exact ex_none ok.ex hb
  · rcases hb with ⟨_, hb⟩ | ⟨_, _, o, h1, _⟩
    · exact ex_live e b (ok.oa g b hb)
    · rw [h1]; simp
  · rcases h1 with ⟨_, h1⟩ | ⟨rfl, g1, _⟩
    · rcases h2 with ⟨_, h2⟩ | ⟨_, g1, _⟩
      · exact ok.ds g k b h1 h2
      · exact absurd g1 (ok.oa g b h1)
    · rcases h2 with ⟨_, h2⟩ | ⟨rfl, _⟩
      · exact absurd g1 (ok.oa k b h2)
      · rfl
  · rcases hb with ⟨_, hb⟩ | ⟨_, _, o', h1, h2⟩
    · exact (ok.exd e).fz g b o hb hz
    · rw [hz] at h1; cases h1; exact h2
  · by_cases hji : j = i
    · subst hji
      obtain ⟨rfl, g⟩ := geti hj
      have r2 : Rep K CL H' u (SlS (fun g b => (g ≠ j ∧ O g b) ∨ (g = j ∧ H b = none ∧ ∃ o, H' b = some o ∧ frzO o = false)) j ((flSetD fl j).nw.contains j) H0) v := r.mono fun b hb => ⟨fun g ob => by
        rcases ob with ⟨_, o⟩ | ⟨h, _⟩
        · exact absurd hb (ok.oa g b o)
        · exact h, fun _ => ex_none ok.ex hb⟩
      refine ⟨v, g, r2, fun _ h2 => ?_⟩
      obtain ⟨p, e1, e2⟩ := root_ref rh h2
      exact ⟨p, e1, .inr ⟨rfl, e2.1, e2.2⟩⟩
    · rw [gete hji] at hj
      obtain ⟨w, h1, h2, h3⟩ := ok.sl j u hj
      have r2 : Rep K CL H u (SlS (fun g b => (g ≠ i ∧ O g b) ∨ (g = i ∧ H b = none ∧ ∃ o, H' b = some o ∧ frzO o = false)) j ((flSetD fl i).nw.contains j) H0) w := h2.alloc.mono fun b hb => ⟨fun g ob => by
        rcases ob with ⟨_, o⟩ | ⟨_, g1, _⟩
        · exact hb.1.1 g o
        · exact absurd g1 hb.2, fun nb => hb.1.2 (by rw [flSetD_nw, if_neg hji] at nb; exact nb)⟩
      refine ⟨w, by rw [gets hji]; exact h1, r2.ex e, fun g1 g2 => ?_⟩
      rw [flSetD_ow, if_neg hji] at g1
      obtain ⟨p, e1, e2⟩ := h3 g1 g2
      exact ⟨p, e1, .inl ⟨hji, e2⟩⟩
  · rcases flSetD_dp h1 with hji | ⟨hji, hd⟩
    · subst hji
      obtain ⟨rfl, g⟩ := geti h3
      rw [g] at h4
      cases h4
      exact rh.mono fun b hb => .inr ⟨rfl, hb⟩
    · rw [flSetD_ow, if_neg hji] at h2
      rw [gete hji] at h3
      rw [gets hji] at h4
      exact ((ok.dp j u w hd h2 h3 h4).mono fun b hb => .inl ⟨hji, hb⟩).ex e
  · obtain ⟨g, hb⟩ := hb
    rcases hb with ⟨_, hb⟩ | ⟨_, g1, _⟩
    · exact .inl ⟨g, hb⟩
    · exact .inr g1
/-- the heap changes within a slot's own region -/
theorem ok_reg {i : Nat} {t' : T} {v : V} {H2 : Hp} (ok : Ok K CL H0 fl env σ H O) (hk : ∀ b o, H b = some o → ¬ O i b → H2 b = some o) (hlv : ∀ b, O i b → ∃ o, H2 b = some o ∧ frzO o = false) (hil : i < env.length) (hv : σ[i]? = some (some v))
    (r : Rep K CL H2 t' (O i) v) : Ok K CL H0 fl (env.set i (some t')) σ H2 O ∧ Step (uni O) H (uni O) H2 := by
  have gete : ∀ {j : Nat}, j ≠ i → (env.set i (some t'))[j]? = env[j]? := fun {j} hn => List.getElem?_set_ne (Ne.symm hn)
  have geti : (env.set i (some t'))[i]? = some (some t') := List.getElem?_set_self hil
  have oth : ∀ {g b}, O g b → g ≠ i → ¬ O i b := fun {g b} h hn z => hn (ok.ds g i b h z)
  have kp : ∀ {S : AS}, (∀ b, S b → ¬ O i b) → Keep S H H2 := fun {S} hs b o hb hq => hk b o hb (by
    rcases hq with hq | hq
    · exact hs b hq
    · intro z; rw [ok.fz i b o z hb] at hq; cases hq)
  refine ⟨⟨by rw [List.length_set]; exact ok.len, fun b o hb => ?_, ok.of_, fun g b hb => ?_, ok.ds, fun g b o hb hz => ?_, fun j u hj => ?_, fun j u w h1 h2 h3 h4 => ?_⟩, ⟨fun b o hb nb => hk b o hb fun z => nb ⟨i, z⟩, fun b hb => .inl hb, fun b hb => ?_⟩⟩
  · exact hk b o (ok.ex b o hb) fun z => by rw [ok.of_ i b z] at hb; cases hb
  · by_cases hg : g = i
    · subst hg
      obtain ⟨o, h1, _⟩ := hlv b hb
      rw [h1]; simp
    · cases q : H b with
      | none => exact absurd q (ok.oa g b hb)
      | some o => rw [hk b o q (oth hb hg)]; simp
  · by_cases hg : g = i
    · subst hg
      obtain ⟨o', h1, h2⟩ := hlv b hb
      rw [hz] at h1; cases h1; exact h2
    · cases q : H b with
      | none => exact absurd q (ok.oa g b hb)
      | some o' =>
        rw [hk b o' q (oth hb hg)] at hz
        cases hz
        exact ok.fz g b _ hb q
  · by_cases hji : j = i
    · subst hji
      rw [geti] at hj
      cases hj
      refine ⟨v, hv, r.mono fun b hb => ⟨fun g o => ok.ds g j b o hb, fun _ => ok.of_ j b hb⟩, fun _ m => root_ref r m⟩
    · rw [gete hji] at hj
      obtain ⟨w, h1, h2, h3⟩ := ok.sl j u hj
      exact ⟨w, h1, h2.keep (kp fun b hb z => hji (hb.1 i z).symm) fun _ z => z, h3⟩
  · by_cases hji : j = i
    · subst hji
      rw [geti] at h3
      cases h3
      rw [hv] at h4
      cases h4
      exact r
    · rw [gete hji] at h3
      exact (ok.dp j u w h1 h2 h3 h4).keep (kp fun b hb => oth hb hji) fun _ z => z
  · by_cases z : O i b
    · obtain ⟨o, h1, _⟩ := hlv b z
      rw [h1]; simp
    · cases q : H b with
      | none => exact absurd q hb
      | some o => rw [hk b o q z]; simp
/-- only the root is kept as the slot's own -/
theorem ok_shr {i : Nat} {p : Addr} (ok : Ok K CL H0 fl env σ H O) (hd : fl.dp.contains i = false) (hp : σ[i]? = some (some (.ref p))) : Ok K CL H0 fl env σ H (fun g b => O g b ∧ (g = i → b = p)) := by
  refine ⟨ok.len, ok.ex, fun g b hb => ok.of_ g b hb.1, fun g b hb => ok.oa g b hb.1, fun g k b h1 h2 => ok.ds g k b h1.1 h2.1, fun g b o hb => ok.fz g b o hb.1, fun j u hj => ?_, fun j u w h1 h2 h3 h4 => ?_⟩
  · obtain ⟨w, h1, h2, h3⟩ := ok.sl j u hj
    refine ⟨w, h1, h2.mono fun b hb => ⟨fun g o => hb.1 g o.1, hb.2⟩, fun g1 g2 => ?_⟩
    obtain ⟨a, e1, e2⟩ := h3 g1 g2
    refine ⟨a, e1, e2, fun z => ?_⟩
    rw [z, hp, e1] at h1
    cases h1
    rfl
  · have hji : j ≠ i := fun z => by rw [z, hd] at h1; cases h1
    exact (ok.dp j u w h1 h2 h3 h4).mono fun b hb => ⟨hb, fun z => absurd z hji⟩
/-- a slot is let go -/
theorem ok_none {j : Nat} (ok : Ok K CL H0 fl env σ H O) : Ok K CL H0 fl (env.set j none) σ H O := by
  have get : ∀ {k : Nat} {u : T}, (env.set j none)[k]? = some (some u) → k ≠ j ∧ env[k]? = some (some u) := fun {k u} h => by
    by_cases hk : k = j
    · subst hk
      by_cases hlt : k < env.length
      · rw [List.getElem?_set_self hlt] at h; cases h
      · rw [List.getElem?_eq_none (by rw [List.length_set]; omega)] at h; cases h
    · rw [List.getElem?_set_ne (Ne.symm hk)] at h
      exact ⟨hk, h⟩
  exact ⟨by rw [List.length_set]; exact ok.len, ok.ex, ok.of_, ok.oa, ok.ds, ok.fz, fun k u hk => ok.sl k u (get hk).2, fun k u w h1 h2 h3 h4 => ok.dp k u w h1 h2 (get h3).2 h4⟩
/-- a slot that nothing is known of may be stored -/
theorem ok_skip {j : Nat} {v : Option V} (ok : Ok K CL H0 fl env σ H O) (hn : ∀ u, env[j]? ≠ some (some u)) : Ok K CL H0 fl env (σ.set j v) H O := by
  have ne : ∀ {k : Nat} {u : T}, env[k]? = some (some u) → k ≠ j := fun {k u} h z => hn u (by rw [← z]; exact h)
  refine ⟨by rw [List.length_set]; exact ok.len, ok.ex, ok.of_, ok.oa, ok.ds, ok.fz, fun k u hk => ?_, fun k u w h1 h2 h3 h4 => ?_⟩
  · rw [List.getElem?_set_ne (Ne.symm (ne hk))]
    exact ok.sl k u hk
  · rw [List.getElem?_set_ne (Ne.symm (ne h3))] at h4
    exact ok.dp k u w h1 h2 h3 h4
end
section
variable {X : Cx} {CL : Nat → Addr × List Str} {nm : Nm} {gv : Nat → Option Int} {Φ : Nat → List T → Option R} {fl : Fl} {H0 : Hp} {pos : Pos} {Ew : XK} {W n : Nat}
/-- a call whose result is told to be new since then -/
theorem e_callD (hT : Tb X CL nm gv Φ) {f : Nat} {es : EL} {pe : Expr} {pes : List Expr} {p : Pos} {x : Str} (hf0 : f < 10000) (hx : nm.fn f = x) (hg : Gl X x) (hd : (x == ("__debug__" : Str)) = false) (h : PA X (pe :: pes) (RA X.K CL fl H0 (evs gv Φ es) (ats fl es)))
    (hs : isStar pe = false) (hss : pes.all (fun e => !isStar e) = true) : PE X (.Call (.Name x p) (pe :: pes) [] pos) (fun σ H Q => ∃ env O t, Ok X.K CL H0 fl env σ H O ∧ ((evs gv Φ es env).bind fun ts => (Φ f ts).bind R.ok) = some t ∧ ∀ v H', Ex H H' → Rep X.K CL H' t (fun b => H b = none) v → Q v H') := by
  refine ⟨fun pins s σ H Q I hw => ?_⟩
  obtain ⟨env, O, t, ok, hf, q⟩ := hw
  obtain ⟨ts, ht, hz⟩ := bind1 hf
  obtain ⟨r, hz, hr'⟩ := bind1 hz
  cases r with
  | exc c => cases hr'
  | wkv c => cases hr'
  | val t' =>
    cases hr'
    obtain ⟨k, fa, fd, ps, hm, hk, hb, hr, F⟩ := hT.fn f ts _ hf0 hz
    subst hx
    refine (pe_call F hr hg hm hk hb .nil passL h hd (star_ok hs) (back_ok hss)).run pins s σ H Q I ⟨env, O, ts, ok, ht, fun vs H1 e1 r1 => ?_⟩
    show spF X.K CL (Φ f) (vs ++ []) H1 Q E0
    rw [List.append_nil]
    refine ⟨ts, _, r1.top, hz, fun t' et v H' e' r' => ?_, (fun c z => nomatch z), (fun c z => nomatch z)⟩
    cases et
    exact q v H' (e1.trans e') (r'.mono fun b hb => ex_none e1 hb)
theorem s_asgC (hT : Tb X CL nm gv Φ) (hX : Tx X CL nm Ew) {i f : Nat} {es : EL} {x y : Str} {px p pc : Pos} {pe : Expr} {pes : List Expr} (h1 : tgNm X.N X.env.scope (fun _ => true) i (.Name x px) = true) (hf0 : f < 10000) (hx : nm.fn f = y) (hg : Gl X y) (hd : (y == ("__debug__" : Str)) = false)
    (h : PA X (pe :: pes) (RA X.K CL fl H0 (evs gv Φ es) (ats fl es))) (hs : isStar pe = false) (hss : pes.all (fun e => !isStar e) = true) :
    PS X (.Assign [.Name x px] (.Call (.Name y p) (pe :: pes) [] pc) pos) (RS X.K CL Ew n fl (some (flSetD fl i)) H0 (exec gv Φ W (.asgC i f es))) := by
  simp only [tgNm, Bool.and_eq_true, decide_eq_true_eq] at h1
  have hl := loc_ok h1.1.2
  refine PS.imp (ps_set hT.nd h1.1.1 hl (e_callD hT hf0 hx hg hd h hs hss) (comp_ok rfl) (.inl (hX.fn x))) fun D σ H hw => ?_
  obtain ⟨env, O, out, hn, ok, hf, q⟩ := hw
  simp only [exec] at hf
  obtain ⟨ts, ht, hz⟩ := bind1 hf
  obtain ⟨t, h2, rfl⟩ := map1 hz
  refine ⟨env, O, t, ok, by rw [ht]; exact h2, fun v H' e' r => ?_⟩
  obtain ⟨O', ok', st'⟩ := ok_setD i ok e' r
  exact q.go ok' st'
theorem fap_inv {c : Nat} {x u z : T} (h : fapT c x u = some z) : ∃ ts, x = .obj c [.lst ts] ∧ ts.length < LIM ∧ imms ts = true ∧ imm u = true ∧ z = .obj c [.lst (ts ++ [u])] := by
  unfold fapT at h
  split at h
  · obtain ⟨⟨rfl, h1, h2, h3⟩, rfl⟩ := ite1 h
    exact ⟨_, rfl, h1, h2, h3, rfl⟩
  · cases h
theorem imms_app : ∀ {ts : List T} {u : T}, imms ts = true → imm u = true → imms (ts ++ [u]) = true
  | [], u, _, h => by show (imm u && true) = true; rw [h]; rfl
  | t :: ts, u, h, h2 => by
    have h' : (imm t && imms ts) = true := h
    rw [Bool.and_eq_true] at h'
    show (imm t && imms (ts ++ [u])) = true
    rw [h'.1, imms_app h'.2 h2]; rfl
theorem s_fap (hT : Tb X CL nm gv Φ) {i c : Nat} {e : E} {pe : Expr} {x f : Str} {p pf pa pc : Pos} (hi : X.N[i]? = some x) (hv : Vis X.env.scope x) (hd : (x == ("__debug__" : Str)) = false) (hcd : (x == ("__classdict__" : Str)) = false) (hf0 : nm.fl c = f) (hne : f ≠ "") (hs : isStar pe = false) (hl : (pa.endLine == pc.line) = true)
    (hdp : fl.dp.contains i = true) (ho : fl.ow.contains i = true) (he : PE X pe (RE X.K CL fl H0 (ev gv Φ e) (at_ fl e))) :
    PS X (.Expr (.Call (.Attribute (.Attribute (.Name x p) f pf) "append" pa) [pe] [] pc) pos) (RS X.K CL Ew n fl (some fl) H0 (exec gv Φ W (.fap i c e))) := by
  refine PS.imp (ps_expr (pe_bm PySem.F.plainAttrs_list PySem.F.slot_list_append PySem.F.type_list_append mt_append (pe_fld (pv_of hi hv hd hcd) (base_ok rfl)) (pa_cons he pa_nil (star_ok hs)) (base_ok rfl) (few1 hs) hl (star_ok hs) rfl) rfl) fun D σ H hw => ?_
  obtain ⟨env, O, out, hn, ok, hf, q⟩ := hw
  simp only [exec] at hf
  obtain ⟨a, b, ha, hb, hz⟩ := bind2 hf
  obtain ⟨z, hy, rfl⟩ := map1 hz
  obtain ⟨ts, rfl, hlen, him, hiu, rfl⟩ := fap_inv hy
  have hi' := slot_get ha
  obtain ⟨v0, h1, _, _⟩ := ok.sl i _ hi'
  obtain ⟨a', dx, fs, rfl, g1, g2, g3, g4⟩ := ok.dp i _ v0 hdp ho hi' h1
  subst hf0
  obtain ⟨k1, k2, k3⟩ := hT.fld c hne
  rw [k3] at g3
  match fs, g3, g4, g2 with
  | [(g, w)], g3, g4, g2 =>
    have hg : g = nm.fl c := by simpa using g3
    subst hg
    obtain ⟨v', r', e2, r2, _⟩ := g4
    have e3 : w = v' := by injection e2
    subst e3
    obtain ⟨bl, vs, rfl, m1, m2, m3, m4⟩ := r2
    refine ⟨.ref a', h1, a', _, dx, _, .ref bl, rfl, g2, k1, k2, by simp [List.lookup], .inl ⟨rfl, vs, .of m2⟩, env, O, b, ok, hb, fun v H' e' r f => ?_⟩
    have m2' : H' bl = some (.lst vs) := e' bl _ m2
    refine ⟨bl, vs, v, rfl, rfl, m2', by rw [m4.len]; exact lim_lt hlen, ?_⟩
    have okd := ok.exd e'
    have hkeep : ∀ c o, H' c = some o → ¬ O i c → upd H' bl (.lst (vs ++ [v])) c = some o := fun c o hc hn => by
      rw [upd_ne fun z => hn (by rw [z]; exact m1.1)]; exact hc
    have hlv : ∀ c, O i c → ∃ o, upd H' bl (.lst (vs ++ [v])) c = some o ∧ frzO o = false := fun c hc => by
      by_cases hcb : c = bl
      · subst hcb; exact ⟨_, upd_same, rfl⟩
      · cases q1 : H' c with
        | none => exact absurd q1 (okd.oa i c hc)
        | some o => exact ⟨o, by rw [upd_ne hcb]; exact q1, okd.fz i c o hc q1⟩
    have kp : Keep (fun _ => False) H' (upd H' bl (.lst (vs ++ [v]))) := fun c o hc hq => by
      rcases hq with hq | hq
      · exact hq.elim
      · rw [upd_ne fun z => by subst z; rw [m2'] at hc; cases hc; cases hq]; exact hc
    have rr : Rep X.K CL (upd H' bl (.lst (vs ++ [v]))) (.obj c [.lst (ts ++ [b])]) (O i) (.ref a') := by
      refine ⟨a', dx, [(nm.fl c, .ref bl)], rfl, g1, by rw [upd_ne (Ne.symm m1.2)]; exact e' a' _ g2, by rw [k3]; rfl, ?_⟩
      refine ⟨.ref bl, [], rfl, ⟨bl, vs ++ [v], rfl, m1, upd_same, by rw [List.length_append, List.length_singleton]; omega, ?_⟩, rfl⟩
      have ra : Reps X.K CL H' (ts ++ [b]) (fun _ => False) (vs ++ [v]) := ((m4.ex e').imm him).append (.one (r.imm hiu))
      exact (ra.keep kp fun _ z => z).mono fun _ z => z.elim
    obtain ⟨ok', st'⟩ := ok_reg okd hkeep hlv (List.getElem?_eq_some_iff.mp hi').1 h1 rr
    exact q.go ok' ((Step.ex e' fun _ z => .inl z).trans st')
theorem setAll_ix : ∀ {is : List Nat} {ts : List T} {env : Env} {i : Nat} {u : T}, ts.length = is.length → i ∈ is → (setAll is ts env)[i]? = some (some u) → ∃ m : Nat, is[m]? = some i ∧ ts[m]? = some u
  | [], _, _, _, _, _, h, _ => by cases h
  | i :: is, [], _, _, _, hl, _, _ => by cases hl
  | i :: is, t :: ts, env, k, u, hl, h, hu => by
    by_cases hk : k ∈ is
    · obtain ⟨m, h1, h2⟩ := setAll_ix (is := is) (ts := ts) (by simpa using hl) hk hu
      exact ⟨m + 1, by simpa using h1, by simpa using h2⟩
    · have e : k = i := (List.mem_cons.mp h).elim id fun z => absurd z hk
      subst e
      have out : ∀ (js : List Nat) (us : List T) (ev : Env), k ∉ js → (setAll js us ev)[k]? = ev[k]? := by
        intro js
        induction js with
        | nil => intro us ev _; cases us <;> rfl
        | cons j js ih =>
          intro us ev hn
          cases us with
          | nil => rfl
          | cons u us =>
            show (setAll js us (ev.set j (some u)))[k]? = _
            rw [ih us _ fun z => hn (List.mem_cons_of_mem _ z), List.getElem?_set_ne fun z => hn (by rw [z]; exact List.mem_cons_self)]
      have hu' : (setAll is ts (env.set k (some t)))[k]? = some (some u) := hu
      rw [out is ts _ hk] at hu'
      have hlt : k < env.length := by
        have := (List.getElem?_eq_some_iff.mp hu').1
        simpa using this
      rw [List.getElem?_set_self hlt] at hu'
      cases hu'
      exact ⟨0, rfl, rfl⟩
theorem oneM_ix : ∀ {ts : List T}, oneM ts = true → ∃ k : Nat, ∀ (m : Nat) (t : T), m ≠ k → ts[m]? = some t → imm t = true
  | [], _ => ⟨0, fun m t _ h => by simp at h⟩
  | t :: ts, h => by
    unfold oneM at h
    split at h
    · rename_i hi
      obtain ⟨k, hk⟩ := oneM_ix h
      refine ⟨k + 1, fun m u hm hu => ?_⟩
      cases m with
      | zero => simp at hu; subst hu; exact hi
      | succ m => exact hk m u (by omega) (by simpa using hu)
    · refine ⟨0, fun m u hm hu => ?_⟩
      cases m with
      | zero => exact absurd rfl hm
      | succ m => exact imms_get h (i := m) (by simpa using hu)
theorem unp_inv {is : List Nat} {x : T} {ts : List T} (h : unpT is x = some ts) : x = .tup ts ∧ ts.length = is.length ∧ oneM ts = true := by
  cases x with
  | tup us => obtain ⟨⟨h1, h2⟩, rfl⟩ := ite1 h; exact ⟨rfl, h1, h2⟩
  | _ => cases h
theorem unp_con {is l : List Nat} {j k : Nat} : (is ++ l.filter (fun k => k != j && !is.contains k)).contains k = true → k ∈ is ∨ (k ∉ is ∧ k ≠ j ∧ l.contains k = true) := fun h => by
  rw [con_app, Bool.or_eq_true, contains_filter] at h
  rcases h with h | h
  · exact .inl (List.contains_iff_mem.mp h)
  · simp only [Bool.and_eq_true, bne_iff_ne, ne_eq, Bool.not_eq_true'] at h
    exact .inr ⟨(fun z => by rw [List.contains_iff_mem.mpr z] at h; cases h.2.2), h.2.1, h.1⟩
theorem s_unp (hT : Tb X CL nm gv Φ) (hX : Tx X CL nm Ew) {is : List Nat} {j : Nat} {x : Str} {px : Pos} {pes : List Expr} {k : Nat} {p : Pos} (hg : tgC X.N X.env.scope (fun _ => true) (.tp is) (.Tuple pes k p) = true) (hi : X.N[j]? = some x) (hv : Vis X.env.scope x) (hd : (x == ("__debug__" : Str)) = false) (hcd : (x == ("__classdict__" : Str)) = false)
    (hdp : fl.dp.contains j = true) (ho : fl.ow.contains j = true) (hji : is.contains j = false) :
    PS X (.Assign [.Tuple pes k p] (.Name x px) pos) (RS X.K CL Ew n fl (some (flUnp is j (fl.nw.contains j) fl)) H0 (exec gv Φ W (.unp is j))) := by
  refine PS.imp (ps_asg (pv_of hi hv hd hcd) (g_tg (CL := CL) hT.nd hT.calm hg fun x _ => hX.fn x) sws_tup (sw_tup rfl) rfl) fun D σ H hw => ?_
  obtain ⟨env, O, out, hn, ok, hf, q⟩ := hw
  simp only [exec] at hf
  obtain ⟨x0, hx0, hz⟩ := bind1 hf
  obtain ⟨ts, h2, rfl⟩ := map1 hz
  obtain ⟨rfl, hlen, hone⟩ := unp_inv h2
  have hj' := slot_get hx0
  obtain ⟨v0, h1, _, _⟩ := ok.sl j _ hj'
  have rd := ok.dp j _ v0 hdp ho hj' h1
  have hji' : j ∉ is := fun z => by rw [List.contains_iff_mem.mpr z] at hji; cases hji
  refine ⟨v0, h1, ?_⟩
  have ok0 := ok_none (j := j) ok
  refine bind_get (S := O j) (env' := setAll is ts (env.set j none)) ok0.len (by show (if ts.length = is.length then some _ else none) = _; rw [if_pos hlen]) rd fun σ' hl' hg' _ _ => ?_
  obtain ⟨kx, hkx⟩ := oneM_ix hone
  have old : ∀ {m u}, m ∉ is → (env.set j none)[m]? = some (some u) → m ≠ j ∧ env[m]? = some (some u) := fun {m u} _ h => by
    by_cases hk : m = j
    · subst hk
      by_cases hlt : m < env.length
      · rw [List.getElem?_set_self hlt] at h; cases h
      · rw [List.getElem?_eq_none (by rw [List.length_set]; omega)] at h; cases h
    · rw [List.getElem?_set_ne (Ne.symm hk)] at h
      exact ⟨hk, h⟩
  have key : ∀ {m u}, m ∈ is → (setAll is ts (env.set j none))[m]? = some (some u) → is[kx]? = some m ∨ imm u = true := fun {m u} hm hu => by
    obtain ⟨y, h3, h4⟩ := setAll_ix hlen hm hu
    by_cases hy : y = kx
    · subst hy; exact .inl h3
    · exact .inr (hkx y u hy h4)
  refine q.go (O' := fun g b => (g ∉ is ∧ g ≠ j ∧ O g b) ∨ (is[kx]? = some g ∧ O j b)) ⟨hl', ok.ex, fun g b hb => ?_, fun g b hb => ?_, fun g k b g1 g2 => ?_, fun g b o hb hz => ?_, fun m u hm => ?_, fun m u w g1 g2 g3 g4 => ?_⟩ (Step.sub fun b hb => ?_)
  · rcases hb with ⟨_, _, hb⟩ | ⟨_, hb⟩
    · exact ok.of_ g b hb
    · exact ok.of_ j b hb
  · rcases hb with ⟨_, _, hb⟩ | ⟨_, hb⟩
    · exact ok.oa g b hb
    · exact ok.oa j b hb
  · rcases g1 with ⟨_, n1, g1⟩ | ⟨e1, g1⟩ <;> rcases g2 with ⟨_, n2, g2⟩ | ⟨e2, g2⟩
    · exact ok.ds g k b g1 g2
    · exact absurd (ok.ds g j b g1 g2) n1
    · exact absurd (ok.ds j k b g1 g2).symm n2
    · rw [e1] at e2; cases e2; rfl
  · rcases hb with ⟨_, _, hb⟩ | ⟨_, hb⟩
    · exact ok.fz g b o hb hz
    · exact ok.fz j b o hb hz
  · rcases hg' m u hm with ⟨w, q1, q2, q3⟩ | ⟨q0, q1, q2⟩
    · have q2' : m ∈ is := q2
      rcases key q2' hm with hk | hk
      · refine ⟨w, q1, q3.mono fun b hb => ⟨fun g ob => ?_, fun _ => ok.of_ j b hb⟩, fun _ z => ?_⟩
        · rcases ob with ⟨_, n1, ob⟩ | ⟨e1, _⟩
          · exact absurd (ok.ds g j b ob hb) n1
          · rw [hk] at e1; cases e1; rfl
        · obtain ⟨a, e1, e2⟩ := root_ref q3 z
          exact ⟨a, e1, .inr ⟨hk, e2⟩⟩
      · exact ⟨w, q1, q3.imm hk, fun _ z => by rw [imm_mut hk] at z; cases z⟩
    · have q0' : m ∉ is := q0
      obtain ⟨n1, q1⟩ := old q0' q1
      obtain ⟨w, g1, g2, g3⟩ := ok.sl m u q1
      refine ⟨w, by rw [q2]; exact g1, g2.mono fun b hb => ⟨fun g ob => ?_, fun nb => hb.2 ?_⟩, fun z1 z2 => ?_⟩
      · rcases ob with ⟨_, _, ob⟩ | ⟨_, ob⟩
        · exact hb.1 g ob
        · exact absurd (hb.1 j ob).symm n1
      · unfold flUnp at nb
        simp only [] at nb
        rw [con_app, Bool.or_eq_true] at nb
        rcases nb with nb | nb
        · split at nb
          · exact absurd (List.contains_iff_mem.mp nb) q0'
          · cases nb
        · rw [contains_filter, Bool.and_eq_true] at nb
          exact nb.1
      · rcases unp_con z1 with z | ⟨_, _, z⟩
        · exact absurd z q0'
        · obtain ⟨a, e1, e2⟩ := g3 z z2
          exact ⟨a, e1, .inl ⟨q0', n1, e2⟩⟩
  · rcases hg' m u g3 with ⟨w', q1, q2, q3⟩ | ⟨q0, q1, q2⟩
    · rw [q1] at g4
      cases g4
      have q2' : m ∈ is := q2
      rcases key q2' g3 with hk | hk
      · exact q3.mono fun b hb => .inr ⟨hk, hb⟩
      · exact q3.imm hk
    · have q0' : m ∉ is := q0
      obtain ⟨n1, q1⟩ := old q0' q1
      rw [q2] at g4
      rcases unp_con g1 with z | ⟨_, _, z⟩
      · exact absurd z q0'
      · rcases unp_con g2 with z' | ⟨_, _, z'⟩
        · exact absurd z' q0'
        · exact (ok.dp m u w z z' q1 g4).mono fun b hb => .inl ⟨q0', n1, hb⟩
  · obtain ⟨g, hb⟩ := hb
    rcases hb with ⟨_, _, hb⟩ | ⟨_, hb⟩
    · exact ⟨g, hb⟩
    · exact ⟨j, hb⟩
/-- for x in xs: x.append(k), xs a new thing's list of lists -/
theorem kfa_inv {t z : T} (h : kfaT t = some z) : ∃ ts, t = .lst ts ∧ (∀ u ∈ ts, ∃ us, u = .lst us ∧ us.length < 1000) ∧ ts.length < 1000 ∧ z = .lst (ts.map fun _ => .unk) := by
  cases t with
  | lst ts =>
    obtain ⟨hc, rfl⟩ := ite1 h
    rw [Bool.and_eq_true, List.all_eq_true, decide_eq_true_eq] at hc
    refine ⟨ts, rfl, fun u hu => ?_, hc.2, rfl⟩
    have := hc.1 u hu
    cases u with
    | lst us =>
      have h2 : (imms us && decide (us.length < 1000)) = true := this
      rw [Bool.and_eq_true, decide_eq_true_eq] at h2
      exact ⟨us, rfl, h2.2⟩
    | _ => cases this
  | _ => cases h
theorem reps_unk {K : PySem.W.Frag} {H : Hp} {S : AS} : ∀ {ts : List T} {vs : List V}, vs.length = ts.length → Reps K CL H (ts.map fun _ => T.unk) S vs
  | [], [], _ => rfl
  | [], _ :: _, h => by simp at h
  | _ :: _, [], h => by simp at h
  | _ :: ts, v :: vs, h => ⟨v, vs, rfl, trivial, reps_unk (by simpa using h)⟩
theorem s_kfa (hT : Tb X CL nm gv Φ) (hX : Tx X CL nm Ew) {x i j2 : Nat} {k : Int} {y z : Str} {px pi p2 pa pc p3 p4 : Pos} (hxn : tgNm X.N X.env.scope (fun _ => true) x (.Name y px) = true) (hvx : Vis X.env.scope y) (hdx : (y == ("__debug__" : Str)) = false) (hcx : (y == ("__classdict__" : Str)) = false)
    (hi : X.N[i]? = some z) (hv : Vis X.env.scope z) (hd : (z == ("__debug__" : Str)) = false) (hcd : (z == ("__classdict__" : Str)) = false) (hl : (pa.endLine == pc.line) = true) (hdp : fl.dp.contains i = true) (ho : fl.ow.contains i = true) (hxi : x ≠ i) (hxl : x < n) :
    PS X (.For (.Name y px) (.Name z pi) [.Expr (.Call (.Attribute (.Name y p2) "append" pa) [.Constant (.int k) j2 p3] [] pc) p4] [] pos) (RS X.K CL Ew n fl (some (flSet (flSet fl i true (fl.nw.contains i)) x false false)) H0 (exec gv Φ W (.kfa x i k))) := by
  have hxi0 : X.N[x]? = some y := by
    simp only [tgNm, Bool.and_eq_true, decide_eq_true_eq] at hxn
    exact hxn.1.1
  have hbody := ps_expr (pos := p4) (pe_bm PySem.F.plainAttrs_list PySem.F.slot_list_append PySem.F.type_list_append mt_append (pv_of (p := p2) hxi0 hvx hdx hcx) (pa_cons (pe_int (X := X) (i := k) (j := j2) (pos := p3)) pa_nil rfl) rfl (few1 rfl) hl rfl rfl) rfl
  refine PS.imp (ps_for hX.own hT.calm (pi_list (pv_of hi hv hd hcd)) (g_nm hT.nd hxn fun x _ => hX.fn x) (pss_one hbody) (set_ok rfl)) fun D σ H hw => ?_
  obtain ⟨env, O, out, hn, ok, hf, q⟩ := hw
  simp only [exec] at hf
  obtain ⟨t, ht, hz⟩ := bind1 hf
  obtain ⟨z', h2, rfl⟩ := map1 hz
  obtain ⟨ts, rfl, hts, htl, rfl⟩ := kfa_inv h2
  have hi' := slot_get ht
  obtain ⟨v0, h1, _, _⟩ := ok.sl i _ hi'
  obtain ⟨a, vs, rfl, g1, g2, g3, g4⟩ := ok.dp i _ v0 hdp ho hi' h1
  have hln := g4.len
  refine ⟨.ref a, h1, a, rfl, ⟨vs, .inl (.inl g2)⟩, ?_⟩
  refine ⟨fun ix m σ' H' => m = vs.length - ix ∧ ix ≤ vs.length ∧ (∃ vx, σ' = σ ∨ σ' = σ.set x vx) ∧ H' a = some (.lst vs) ∧ (∀ b o, H b = some o → ¬ (O i b ∧ b ≠ a) → H' b = some o) ∧ (∀ b, O i b → ∃ o, H' b = some o ∧ frzO o = false) ∧ (∀ (j : Nat) w, vs[j]? = some w → ∃ b ls, w = .ref b ∧ b ≠ a ∧ O i b ∧ H' b = some (.lst ls) ∧ ls.length < 1000 + ix),
    ⟨vs.length, by simp, Nat.zero_le _, ⟨none, .inl rfl⟩, g2, fun b o h _ => h, fun b hb => ?_, fun j w hw => ?_⟩, ?_⟩
  · cases q1 : H b with
    | none => exact absurd q1 (ok.oa i b hb)
    | some o => exact ⟨o, rfl, ok.fz i b o hb q1⟩
  · obtain ⟨u, hu, ru⟩ := g4.getV hw
    obtain ⟨us, rfl, hul⟩ := hts u (List.mem_of_getElem? hu)
    obtain ⟨b, ls, rfl, m1, m2, _, m4⟩ := ru
    exact ⟨b, ls, rfl, m1.2, m1.1, m2, by rw [m4.len]; omega⟩
  rintro ix m σ' H' ⟨rfl, hix, ⟨vx, hσ⟩, hHa, hk, hlv, hch⟩
  by_cases hlt : ix < vs.length
  · right
    have hw : vs[ix]? = some vs[ix] := List.getElem?_eq_getElem hlt
    refine ⟨⟨vs, vs[ix], .inl (.inl hHa), hw⟩, fun σ2 H2 => _, fun σ2 H2 z => ⟨vs.length - (ix + 1), by omega, rfl, hlt, z⟩, fun xv H2 hy => ?_⟩
    obtain ⟨rfl, hy⟩ := hy
    have hx' := hy vs (.inl (.inl hHa))
    rw [hw] at hx'
    cases hx'
    obtain ⟨b, ls, e1, n1, n2, n3, n4⟩ := hch ix _ hw
    have hσl : x < σ'.length := by
      have h10 : σ'.length = σ.length := by
        rcases hσ with hσ | hσ
        · rw [hσ]
        · rw [hσ, List.length_set]
      rw [h10, ok.len, hn]; exact hxl
    refine ⟨.ref b, by rw [List.getElem?_set_self hσl, e1], .inl ⟨rfl, ls, .of n3⟩, b, ls, .int k, rfl, rfl, n3, ?_, ?_⟩
    · have : (2000 : Nat) ≤ sizeLine := by decide
      omega
    · refine ⟨⟨some vs[ix], ?_⟩, ?_, fun c o hc hn => ?_, fun c hc => ?_, fun j w hw' => ?_⟩
      · right
        rcases hσ with hσ | hσ
        · rw [hσ]
        · rw [hσ, List.set_set]
      · rw [upd_ne (Ne.symm n1)]; exact hHa
      · rw [upd_ne fun z => hn (by rw [z]; exact ⟨n2, n1⟩)]; exact hk c o hc hn
      · by_cases hcb : c = b
        · subst hcb; exact ⟨_, upd_same, rfl⟩
        · obtain ⟨o, q1, q2⟩ := hlv c hc
          exact ⟨o, by rw [upd_ne hcb]; exact q1, q2⟩
      · obtain ⟨b', ls', e1', m1, m2, m3, m4⟩ := hch j w hw'
        by_cases hbb : b' = b
        · subst hbb
          rw [n3] at m3
          cases m3
          exact ⟨b', _, e1', m1, m2, upd_same, by rw [List.length_append, List.length_singleton]; omega⟩
        · exact ⟨b', ls', e1', m1, m2, by rw [upd_ne hbb]; exact m3, by omega⟩
  · left
    refine ⟨⟨vs, .inl (.inl hHa), by omega⟩, ?_⟩
    have okn := ok_none (j := x) ok
    have hnx : ∀ u, (env.set x none)[x]? ≠ some (some u) := fun u z => by
      by_cases hl9 : x < env.length
      · rw [List.getElem?_set_self hl9] at z; cases z
      · rw [List.getElem?_eq_none (by rw [List.length_set]; omega)] at z; cases z
    have oks : Ok X.K CL H0 fl (env.set x none) σ' H O := by
      rcases hσ with hσ | hσ
      · rw [hσ]; exact okn
      · rw [hσ]; exact ok_skip okn hnx
    have hs' : σ'[i]? = some (some (.ref a)) := by
      rcases hσ with hσ | hσ
      · rw [hσ]; exact h1
      · rw [hσ, List.getElem?_set_ne hxi]; exact h1
    obtain ⟨ok', st'⟩ := ok_reg (i := i) (t' := .lst (ts.map fun _ => .unk)) oks (fun b o hb hnb => hk b o hb fun zz => hnb zz.1) hlv (by rw [List.length_set]; exact (List.getElem?_eq_some_iff.mp hi').1) hs' ⟨a, vs, rfl, g1, hHa, by rw [List.length_map]; exact g3, reps_unk hln⟩
    obtain ⟨O2, ok2, st2⟩ := ok_weak (fl' := flSet (flSet fl i true (fl.nw.contains i)) x false false) ok' (fun j hj => by
      rw [flSet_ow] at hj
      by_cases hjx : j = x
      · rw [if_pos hjx] at hj; cases hj
      · rw [if_neg hjx, flSet_ow] at hj
        by_cases hji : j = i
        · rw [hji]; exact ho
        · rw [if_neg hji] at hj; exact hj) (fun j hj => by
      rw [flSet_nw] at hj
      by_cases hjx : j = x
      · rw [if_pos hjx] at hj; cases hj
      · rw [if_neg hjx, flSet_nw] at hj
        by_cases hji : j = i
        · rw [if_pos hji] at hj; rw [hji]; exact hj
        · rw [if_neg hji] at hj; exact hj) (fun j hj => (flSet_dp (flSet_dp hj).2).2)
    exact q.go ok2 (st'.trans st2)
theorem s_pop (hT : Tb X CL nm gv Φ) (hX : Tx X CL nm Ew) {i j : Nat} {x y : Str} {px p pa pc : Pos} (h1 : tgNm X.N X.env.scope (fun _ => true) j (.Name x px) = true) (hi : X.N[i]? = some y) (hv : Vis X.env.scope y) (hd : (y == ("__debug__" : Str)) = false) (hcd : (y == ("__classdict__" : Str)) = false) (hl : (pa.endLine == pc.line) = true) (ho : fl.ow.contains i = true) (hji : j ≠ i) :
    PS X (.Assign [.Name x px] (.Call (.Attribute (.Name y p) "pop" pa) [] [] pc) pos) (RS X.K CL Ew n fl (some (flSet (flSet fl i true (fl.nw.contains i)) j false (fl.nw.contains i))) H0 (exec gv Φ W (.pop j i))) := by
  simp only [tgNm, Bool.and_eq_true, decide_eq_true_eq] at h1
  have hll := loc_ok h1.1.2
  refine PS.imp (ps_set hT.nd h1.1.1 hll (pe_bm0 PySem.F.plainAttrs_list PySem.F.slot_list_pop PySem.F.type_list_pop mt_pop (pv_of hi hv hd hcd) rfl hl) (comp_ok rfl) (.inl (hX.fn x))) fun D σ H hw => ?_
  obtain ⟨env, O, out, hn, ok, hf, q⟩ := hw
  simp only [exec] at hf
  obtain ⟨x0, hx0, hz⟩ := bind1 hf
  cases x0 with
  | lst ts =>
    simp only [] at hz
    cases hlast : ts.getLast? with
    | none => rw [hlast] at hz; cases hz
    | some u =>
      rw [hlast] at hz
      cases hz
      have hi' := slot_get hx0
      obtain ⟨p', vs, g1, _, g2, g3, g4, g5⟩ := lst_at ok (Ex.refl H) ho hi'
      have hne : ts ≠ [] := fun z => by rw [z] at hlast; cases hlast
      have hlt : ts.length - 1 < ts.length := by
        have : ts.length ≠ 0 := fun z => hne (List.length_eq_zero_iff.mp z)
        omega
      have hu : ts[ts.length - 1]? = some u := by rw [← hlast, List.getLast?_eq_getElem?]
      obtain ⟨w, k1, k2⟩ := g5.get hu
      refine ⟨.ref p', g1, .inl ⟨rfl, vs, .of g2⟩, p', vs, w, rfl, rfl, g2, by rw [g3]; exact k1, ?_⟩
      obtain ⟨O1, ok1, st1⟩ := ok_weak (fl' := ⟨fl.ow, fl.nw, fl.dp.filter (fun k => k != i)⟩) ok (fun _ z => z) (fun _ z => z) (fun k z => by
        have z' : (fl.dp.filter (fun k => k != i)).contains k = true := z
        rw [contains_filter, Bool.and_eq_true] at z'
        exact z'.1)
      have oks := ok_shr (i := i) (p := p') ok1 (by show (fl.dp.filter (fun k => k != i)).contains i = false; rw [contains_filter]; simp) g1
      obtain ⟨_, _, c1, _, c2, _, _, c5⟩ := lst_at ok1 (Ex.refl H) ho hi'
      rw [g1] at c1
      cases c1
      rw [g2] at c2
      cases c2
      obtain ⟨w2, d1, d2⟩ := c5.get hu
      rw [k1] at d1
      cases d1
      have r2 : Rep X.K CL H u (SS (fun g b => O1 g b ∧ (g = i → b = p')) env σ (⟨[], fl.nw.contains i, false⟩ : At).ret H0 (fl.nw.contains i)) w := d2.mono fun b hb => ⟨fun g o => absurd (o.2 (hb.1.1 g o.1)) hb.2, hb.1.2⟩
      obtain ⟨O2, ok2, st2⟩ := ok_set (a := ⟨[], fl.nw.contains i, false⟩) j oks (Ex.refl H) r2 (fun z => by cases z)
      have hi2 : (env.set j (some u))[i]? = some (some (.lst ts)) := by rw [List.getElem?_set_ne hji]; exact hi'
      have ho2 : (flSet (flDrop ⟨fl.ow, fl.nw, fl.dp.filter (fun k => k != i)⟩ (⟨[], fl.nw.contains i, false⟩ : At).ret) j false (fl.nw.contains i)).ow.contains i = true := by
        rw [flSet_ow, if_neg (Ne.symm hji), flDrop_ow]
        show (fl.ow.contains i && _) = true
        rw [ho]; rfl
      obtain ⟨p2, vs2, m1, m2, m3, m4, m5, m6⟩ := lst_at ok2 (Ex.refl H) ho2 hi2
      rw [List.getElem?_set_ne hji, g1] at m1
      cases m1
      rw [g2] at m2
      cases m2
      obtain ⟨O', ok', st'⟩ := lst_new (a := imA) (ts' := ts.dropLast) (us := []) (ws := []) (vs' := vs.dropLast) ok2 (Ex.refl H) ho2 rfl hi2 (by rw [List.getElem?_set_ne hji]; exact g1) g2 m6 rfl (by rw [List.length_dropLast]; omega) (fun _ _ a _ => by
        rw [List.dropLast_eq_take, List.dropLast_eq_take, g3]
        exact a.take _)
      rw [List.set_comm _ _ hji] at ok'
      obtain ⟨O3, ok3, st3⟩ := ok_weak (fl' := flSet (flSet fl i true (fl.nw.contains i)) j false (fl.nw.contains i)) ok' (fun k hk => by
        rw [flSet_ow] at hk
        by_cases hkj : k = j
        · rw [if_pos hkj] at hk; cases hk
        · rw [if_neg hkj, flSet_ow] at hk
          rw [flSet_ow]
          by_cases hki : k = i
          · rw [if_pos hki]
          · rw [if_neg hki] at hk ⊢
            rw [flDrop_ow, flSet_ow, if_neg hkj, flDrop_ow]
            show ((fl.ow.contains k && _) && _) = true
            rw [hk]; rfl) (fun k hk => by
        rw [flSet_nw] at hk
        rw [flSet_nw]
        by_cases hki : k = i
        · rw [if_pos hki]
          by_cases hkj : k = j
          · exact absurd (hkj.symm.trans hki) hji
          · rw [if_neg hkj, flSet_nw, if_pos hki] at hk
            rw [flSet_nw, if_neg (Ne.symm hji)]
            show (true && fl.nw.contains i) = true
            rw [hk]; rfl
        · rw [if_neg hki, flDrop_nw, flSet_nw]
          by_cases hkj : k = j
          · rw [if_pos hkj] at hk ⊢; exact hk
          · rw [if_neg hkj] at hk ⊢
            rw [flSet_nw, if_neg hki] at hk
            exact hk) (fun k hk => by
        obtain ⟨a1, a2⟩ := flSet_dp hk
        obtain ⟨a3, a4⟩ := flSet_dp a2
        show ((((fl.dp.filter (fun k => k != i)).filter (fun k => k != j)).filter (fun k => k != i)).contains k) = true
        rw [contains_filter, contains_filter, contains_filter, a4]
        simp [a1, a3])
      have sts : Step (uni O1) H (uni fun g b => O1 g b ∧ (g = i → b = p')) H := Step.sub fun b hb => let ⟨g, hb⟩ := hb; ⟨g, hb.1⟩
      exact q.go ok3 ((((st1.trans sts).trans st2).trans st').trans st3)
  | _ => cases hz
theorem s_asgS (hT : Tb X CL nm gv Φ) (hX : Tx X CL nm Ew) {i j : Nat} {k : E} {x y : Str} {px p p2 : Pos} {pk : Expr} (h1 : tgNm X.N X.env.scope (fun _ => true) i (.Name x px) = true) (hj : X.N[j]? = some y) (hv : Vis X.env.scope y) (hd : (y == ("__debug__" : Str)) = false) (hcd : (y == ("__classdict__" : Str)) = false)
    (hk : PE X pk (RE X.K CL fl H0 (ev gv Φ k) (at_ fl k))) (hs : isSlice pk = false) (ho : fl.ow.contains j = true) (hij : i ≠ j) :
    PS X (.Assign [.Name x px] (.Subscript (.Name y p) pk p2) pos) (RS X.K CL Ew n fl (some (flSet ⟨fl.ow, fl.nw, fl.dp.filter (fun k => k != j)⟩ i false (fl.nw.contains j))) H0 (exec gv Φ W (.asgS i j k))) := by
  simp only [tgNm, Bool.and_eq_true, decide_eq_true_eq] at h1
  have hll := loc_ok h1.1.2
  refine PS.imp (ps_set hT.nd h1.1.1 hll (pe_ix ix_list (pv_of hj hv hd hcd) hk (ix_ok hs)) (comp_ok rfl) (.inl (hX.fn x))) fun D σ H hw => ?_
  obtain ⟨env, O, out, hn, ok, hf, q⟩ := hw
  simp only [exec] at hf
  obtain ⟨x0, y0, hx0, hy0, hz⟩ := bind2 hf
  cases x0 with
  | lst ts => cases y0 with
    | int m =>
      obtain ⟨t, ht, rfl⟩ := map1 hz
      have hj' := slot_get hx0
      obtain ⟨p', vs, g1, _⟩ := lst_at ok (Ex.refl H) ho hj'
      refine ⟨.ref p', g1, env, O, _, ok, hy0, fun v H1 e1 r1 _ => ?_⟩
      have r1' : v = .int m := r1
      subst r1'
      obtain ⟨O1, ok1, st1⟩ := ok_weak (fl' := ⟨fl.ow, fl.nw, fl.dp.filter (fun k => k != j)⟩) (ok.exd e1) (fun _ z => z) (fun _ z => z) (fun k z => by
        have z' : (fl.dp.filter (fun k => k != j)).contains k = true := z
        rw [contains_filter, Bool.and_eq_true] at z'
        exact z'.1)
      have oks := ok_shr (i := j) (p := p') ok1 (by show (fl.dp.filter (fun k => k != j)).contains j = false; rw [contains_filter]; simp) g1
      obtain ⟨p2, vs2, c1, c2, _, _, _, c5⟩ := lst_at ok1 (Ex.refl H1) ho hj'
      rw [g1] at c1
      cases c1
      obtain ⟨w, d1, d2⟩ := c5.atI ht
      refine ⟨p', vs2, m, w, rfl, rfl, .inl (.inl c2), d1, ?_⟩
      have r2 : Rep X.K CL H1 t (SS (fun g b => O1 g b ∧ (g = j → b = p')) env σ (⟨[], fl.nw.contains j, false⟩ : At).ret H0 (fl.nw.contains j)) w := d2.mono fun b hb => ⟨fun g o => absurd (o.2 (hb.1.1 g o.1)) hb.2, hb.1.2⟩
      obtain ⟨O2, ok2, st2⟩ := ok_set (a := ⟨[], fl.nw.contains j, false⟩) i oks (Ex.refl H1) r2 (fun z => by cases z)
      rw [flDrop_nil] at ok2
      have sts : Step (uni O1) H1 (uni fun g b => O1 g b ∧ (g = j → b = p')) H1 := Step.sub fun b hb => let ⟨g, hb⟩ := hb; ⟨g, hb.1⟩
      exact q.go ok2 ((((Step.ex e1 fun _ z => .inl z).trans st1).trans sts).trans st2)
    | _ => cases hz
  | _ => cases y0 <;> cases hz
/-- a statement under a dict's lock -/
theorem s_lck {i : Nat} {s : S} {st : Stmt} {g : Fl} (ho : fl.ow.contains i = true) (hw : fl.nw.contains i = true) (h : PS X st (RS X.K CL Ew n (flSet fl i false true) (some g) H0 (exec gv Φ W s))) :
    PS X st (RS X.K CL Ew n fl (some (flSet g i false false)) H0 (exec gv Φ W (.lck i s))) := by
  refine PS.imp (ps_lock h) fun D σ H hw' => ?_
  obtain ⟨env, O, out, hn, ok, hf, q⟩ := hw'
  simp only [exec] at hf
  obtain ⟨x, hx, hf⟩ := bind1 hf
  cases x with
  | dct ks ts =>
    obtain ⟨o, ho1, hf⟩ := bind1 hf
    cases o with
    | nx env' =>
      obtain ⟨hall, rfl⟩ := ite1 hf
      have hi := slot_get hx
      have hil : i < env.length := (List.getElem?_eq_some_iff.mp hi).1
      obtain ⟨v, hv, r, hown⟩ := ok.sl i _ hi
      obtain ⟨a, e1, hOa⟩ := hown ho rfl
      obtain ⟨b, kvs, e2, hS, hb, hl, hk, hr⟩ := r
      rw [e1] at e2
      cases e2
      have ha0 : H0 a = none := ok.of_ i a hOa
      have hna : ∀ {g b}, O g b → g ≠ i → b ≠ a := fun {g b} h1 h2 z => h2 (ok.ds g i a (z ▸ h1) hOa)
      refine ⟨a, .dT kvs, hb, trivial, fun od => ?_⟩
      have kp : ∀ {S : AS}, (∀ b, S b → b ≠ a) → Keep S H (upd H a (.frz od (.dT kvs))) := fun {S} hS b o h1 h2 => by
        have hne : b ≠ a := by
          rcases h2 with h2 | h2
          · exact hS b h2
          · intro z
            rw [z, hb] at h1
            cases h1
            cases h2
        rw [upd_ne hne]; exact h1
      refine ⟨env.set i (some (.fdc ks ts)), fun g b => O g b ∧ g ≠ i, .nx env', by rw [List.length_set]; exact hn, ⟨?_, ?_, ?_, ?_, ?_, ?_, ?_, ?_⟩, ho1, ?_⟩
      · rw [List.length_set]; exact ok.len
      · intro b o hb0
        have hne : b ≠ a := fun z => by rw [z, ha0] at hb0; cases hb0
        rw [upd_ne hne]; exact ok.ex b o hb0
      · exact fun g b h1 => ok.of_ g b h1.1
      · intro g b h1
        rw [upd_ne (hna h1.1 h1.2)]; exact ok.oa g b h1.1
      · exact fun g k b h1 h2 => ok.ds g k b h1.1 h2.1
      · intro g b o h1 h2
        rw [upd_ne (hna h1.1 h1.2)] at h2
        exact ok.fz g b o h1.1 h2
      · intro j t hj
        by_cases e : j = i
        · subst e
          rw [List.getElem?_set_self hil] at hj
          cases hj
          refine ⟨_, hv, ⟨a, kvs, od, e1, upd_same, hl, hk, hr.keep (kp fun b hb => hb.2) fun b hb => ⟨fun g hg => hb.1.1 g hg.1, fun _ => hb.1.2 hw⟩⟩, fun z => ?_⟩
          rw [flSet_ow, if_pos rfl] at z; cases z
        · rw [List.getElem?_set_ne (fun z => e z.symm)] at hj
          obtain ⟨w, g1, g2, g3⟩ := ok.sl j t hj
          refine ⟨w, g1, g2.keep (kp fun b hb z => e (hb.1 i (z ▸ hOa)).symm) fun b hb => ⟨fun g hg => hb.1 g hg.1, fun z => hb.2 (by rw [flSet_nw, if_neg e] at z; exact z)⟩, fun z1 z2 => ?_⟩
          rw [flSet_ow, if_neg e] at z1
          obtain ⟨p, h1, h2⟩ := g3 z1 z2
          exact ⟨p, h1, h2, e⟩
      · intro j t v' h1 h2 h3 h4
        obtain ⟨e, hd⟩ := flSet_dp h1
        rw [flSet_ow, if_neg e] at h2
        rw [List.getElem?_set_ne (fun z => e z.symm)] at h3
        exact (ok.dp j t v' hd h2 h3 h4).keep (kp fun b hb => hna hb e) fun b hb => ⟨hb, e⟩
      · refine ⟨fun env'' z => ?_, (fun _ z => nomatch z), (fun _ z => nomatch z), (fun _ z => nomatch z)⟩
        cases z
        refine ⟨g, rfl, fun σ' H' O' ok' st' => ?_⟩
        have hd' : H' a = some (.frz od (.dT kvs)) := st'.keep a _ upd_same fun ⟨g', h1, h2⟩ => h2 (ok.ds g' i a h1 hOa)
        refine ⟨hd', ?_⟩
        obtain ⟨fl', efl, k⟩ := q.nx _ rfl
        cases efl
        have noF : ∀ j t, j ≠ i → env'[j]? = some (some t) → hasF t = false := fun j t e hj => by
          have h1 : (env'.set i none)[j]? = some (some t) := by rw [List.getElem?_set_ne (fun z => e z.symm)]; exact hj
          have := List.all_eq_true.mp hall _ (List.mem_of_getElem? h1)
          simpa [okF] using this
        refine k σ' (upd H' a (.dT kvs)) O' ⟨?_, ?_, ok'.of_, ?_, ok'.ds, ?_, ?_, ?_⟩ ⟨?_, ?_, ?_⟩
        · rw [List.length_set]; exact ok'.len
        · intro b o hb0
          have hne : b ≠ a := fun z => by rw [z, ha0] at hb0; cases hb0
          rw [upd_ne hne]; exact ok'.ex b o hb0
        · intro g' b h1
          by_cases e : b = a
          · rw [e, upd_same]; simp
          · rw [upd_ne e]; exact ok'.oa g' b h1
        · intro g' b o h1 h2
          have hne : b ≠ a := fun z => by
            have := ok'.fz g' a _ (z ▸ h1) hd'
            cases this
          rw [upd_ne hne] at h2
          exact ok'.fz g' b o h1 h2
        · intro j t hj
          by_cases e : j = i
          · subst e
            have : j < env'.length := by
              have := (List.getElem?_eq_some_iff.mp hj).1
              rwa [List.length_set] at this
            rw [List.getElem?_set_self this] at hj
            cases hj
          · rw [List.getElem?_set_ne (fun z => e z.symm)] at hj
            obtain ⟨w, g1, g2, g3⟩ := ok'.sl j t hj
            refine ⟨w, g1, (g2.unfrz hd' (noF j t e hj)).mono fun b hb => ⟨hb.1, fun z => hb.2 (by rw [flSet_nw, if_neg e] at z; exact z)⟩, fun z1 z2 => g3 (by rw [flSet_ow, if_neg e] at z1; exact z1) z2⟩
        · intro j t v' h1 h2 h3 h4
          obtain ⟨e, hd⟩ := flSet_dp h1
          rw [flSet_ow, if_neg e] at h2
          rw [List.getElem?_set_ne (fun z => e z.symm)] at h3
          exact (ok'.dp j t v' hd h2 h3 h4).unfrz hd' (noF j t e h3)
        · intro b o h1 h2
          have hne : b ≠ a := fun z => h2 ⟨i, z ▸ hOa⟩
          rw [upd_ne hne]
          exact st'.keep b o (by rw [upd_ne hne]; exact h1) fun ⟨g', h3, _⟩ => h2 ⟨g', h3⟩
        · intro b h1
          rcases st'.own b h1 with ⟨g', h2, _⟩ | h2
          · exact .inl ⟨g', h2⟩
          · by_cases e : b = a
            · rw [e, upd_same] at h2; cases h2
            · rw [upd_ne e] at h2; exact .inr h2
        · intro b h1
          by_cases e : b = a
          · rw [e, upd_same]; simp
          · rw [upd_ne e]; exact st'.live b (by rw [upd_ne e]; exact h1)
    | _ => cases hf
  | _ => cases hf
end
end Sb
namespace Sb
open PySem L2
open Evl (Ex Ex.refl Ex.trans Ex.new)
def vAsg : Stmt → Option (Expr × Expr × Pos)
  | .Assign [a] b c => some (a, b, c)
  | _ => none
theorem vAsg_eq {st : Stmt} {q : Expr × Expr × Pos} (h : vAsg st = some q) : ∃ a b c, q = (a, b, c) ∧ st = .Assign [a] b c := by
  unfold vAsg at h
  split at h
  · cases h; exact ⟨_, _, _, rfl, rfl⟩
  · cases h
def vName : Expr → Option (Str × Pos)
  | .Name a b => some (a, b)
  | _ => none
theorem vName_eq {st : Expr} {q : Str × Pos} (h : vName st = some q) : ∃ a b, q = (a, b) ∧ st = .Name a b := by
  unfold vName at h
  split at h
  · cases h; exact ⟨_, _, rfl, rfl⟩
  · cases h
def vTup : Expr → Option (List Expr × Nat × Pos)
  | .Tuple a b c => some (a, b, c)
  | _ => none
theorem vTup_eq {st : Expr} {q : List Expr × Nat × Pos} (h : vTup st = some q) : ∃ a b c, q = (a, b, c) ∧ st = .Tuple a b c := by
  unfold vTup at h
  split at h
  · cases h; exact ⟨_, _, _, rfl, rfl⟩
  · cases h
def vSub : Expr → Option (Str × Pos × Expr × Pos)
  | .Subscript (.Name a b) c d => some (a, b, c, d)
  | _ => none
theorem vSub_eq {st : Expr} {q : Str × Pos × Expr × Pos} (h : vSub st = some q) : ∃ a b c d, q = (a, b, c, d) ∧ st = .Subscript (.Name a b) c d := by
  unfold vSub at h
  split at h
  · cases h; exact ⟨_, _, _, _, rfl, rfl⟩
  · cases h
def vAug : Stmt → Option (Str × Pos × Operator × Expr × Pos)
  | .AugAssign (.Name a b) c d e => some (a, b, c, d, e)
  | _ => none
theorem vAug_eq {st : Stmt} {q : Str × Pos × Operator × Expr × Pos} (h : vAug st = some q) : ∃ a b c d e, q = (a, b, c, d, e) ∧ st = .AugAssign (.Name a b) c d e := by
  unfold vAug at h
  split at h
  · cases h; exact ⟨_, _, _, _, _, rfl, rfl⟩
  · cases h
def vMeth : Stmt → Option (Str × Pos × Str × Pos × List Expr × Pos × Pos)
  | .Expr (.Call (.Attribute (.Name a b) c d) e [] f) g => some (a, b, c, d, e, f, g)
  | _ => none
theorem vMeth_eq {st : Stmt} {q : Str × Pos × Str × Pos × List Expr × Pos × Pos} (h : vMeth st = some q) : ∃ a b c d e f g, q = (a, b, c, d, e, f, g) ∧ st = .Expr (.Call (.Attribute (.Name a b) c d) e [] f) g := by
  unfold vMeth at h
  split at h
  · cases h; exact ⟨_, _, _, _, _, _, _, rfl, rfl⟩
  · cases h
def vIf : Stmt → Option (Expr × List Stmt × List Stmt × Pos)
  | .If a b c d => some (a, b, c, d)
  | _ => none
theorem vIf_eq {st : Stmt} {q : Expr × List Stmt × List Stmt × Pos} (h : vIf st = some q) : ∃ a b c d, q = (a, b, c, d) ∧ st = .If a b c d := by
  unfold vIf at h
  split at h
  · cases h; exact ⟨_, _, _, _, rfl, rfl⟩
  · cases h
def vFor : Stmt → Option (Expr × Expr × List Stmt × Pos)
  | .For a b c [] d => some (a, b, c, d)
  | _ => none
theorem vFor_eq {st : Stmt} {q : Expr × Expr × List Stmt × Pos} (h : vFor st = some q) : ∃ a b c d, q = (a, b, c, d) ∧ st = .For a b c [] d := by
  unfold vFor at h
  split at h
  · cases h; exact ⟨_, _, _, _, rfl, rfl⟩
  · cases h
def vWhl : Stmt → Option (Expr × List Stmt × Pos)
  | .While a b [] c => some (a, b, c)
  | _ => none
theorem vWhl_eq {st : Stmt} {q : Expr × List Stmt × Pos} (h : vWhl st = some q) : ∃ a b c, q = (a, b, c) ∧ st = .While a b [] c := by
  unfold vWhl at h
  split at h
  · cases h; exact ⟨_, _, _, rfl, rfl⟩
  · cases h
def vRet : Stmt → Option (Expr × Pos)
  | .Return (some a) b => some (a, b)
  | _ => none
theorem vRet_eq {st : Stmt} {q : Expr × Pos} (h : vRet st = some q) : ∃ a b, q = (a, b) ∧ st = .Return (some a) b := by
  unfold vRet at h
  split at h
  · cases h; exact ⟨_, _, rfl, rfl⟩
  · cases h
def vExp : Stmt → Option (Expr × Pos)
  | .Expr a b => some (a, b)
  | _ => none
theorem vExp_eq {st : Stmt} {q : Expr × Pos} (h : vExp st = some q) : ∃ a b, q = (a, b) ∧ st = .Expr a b := by
  unfold vExp at h
  split at h
  · cases h; exact ⟨_, _, rfl, rfl⟩
  · cases h
def vRse : Stmt → Option (Str × Pos × Str × Nat × Pos × Pos × Pos)
  | .Raise (some (.Call (.Name a b) [.Constant (.str c) d e] [] f)) none g => some (a, b, c, d, e, f, g)
  | _ => none
theorem vRse_eq {st : Stmt} {q : Str × Pos × Str × Nat × Pos × Pos × Pos} (h : vRse st = some q) : ∃ a b c d e f g, q = (a, b, c, d, e, f, g) ∧ st = .Raise (some (.Call (.Name a b) [.Constant (.str c) d e] [] f)) none g := by
  unfold vRse at h
  split at h
  · cases h; exact ⟨_, _, _, _, _, _, _, rfl, rfl⟩
  · cases h
def vCall : Expr → Option (Str × Pos × List Expr × Pos)
  | .Call (.Name y p) pes [] pc => some (y, p, pes, pc)
  | _ => none
theorem vCall_eq {e : Expr} {q : Str × Pos × List Expr × Pos} (h : vCall e = some q) : ∃ a b c d, q = (a, b, c, d) ∧ e = .Call (.Name a b) c [] d := by
  unfold vCall at h
  split at h
  · cases h; exact ⟨_, _, _, _, rfl, rfl⟩
  · cases h
def vFap : Expr → Option (Str × Pos × Str × Pos × Str × Pos × Expr × Pos)
  | .Call (.Attribute (.Attribute (.Name x p) f pf) m pa) [pe] [] pc => some (x, p, f, pf, m, pa, pe, pc)
  | _ => none
theorem vFap_eq {e : Expr} {q : Str × Pos × Str × Pos × Str × Pos × Expr × Pos} (h : vFap e = some q) : ∃ x p f pf m pa pe pc, q = (x, p, f, pf, m, pa, pe, pc) ∧ e = .Call (.Attribute (.Attribute (.Name x p) f pf) m pa) [pe] [] pc := by
  unfold vFap at h
  split at h
  · cases h; exact ⟨_, _, _, _, _, _, _, _, rfl, rfl⟩
  · cases h
def vPop : Expr → Option (Str × Pos × Str × Pos × Pos)
  | .Call (.Attribute (.Name y p) m pa) [] [] pc => some (y, p, m, pa, pc)
  | _ => none
theorem vPop_eq {e : Expr} {q : Str × Pos × Str × Pos × Pos} (h : vPop e = some q) : ∃ y p m pa pc, q = (y, p, m, pa, pc) ∧ e = .Call (.Attribute (.Name y p) m pa) [] [] pc := by
  unfold vPop at h
  split at h
  · cases h; exact ⟨_, _, _, _, _, rfl, rfl⟩
  · cases h
def vKfa : List Stmt → Option (Str × Pos × Str × Pos × Int × Nat × Pos × Pos × Pos)
  | [.Expr (.Call (.Attribute (.Name x p) m pa) [.Constant (.int k) j p3] [] pc) p4] => some (x, p, m, pa, k, j, p3, pc, p4)
  | _ => none
theorem vKfa_eq {e : List Stmt} {q : Str × Pos × Str × Pos × Int × Nat × Pos × Pos × Pos} (h : vKfa e = some q) : ∃ x p m pa k j p3 pc p4, q = (x, p, m, pa, k, j, p3, pc, p4) ∧ e = [.Expr (.Call (.Attribute (.Name x p) m pa) [.Constant (.int k) j p3] [] pc) p4] := by
  unfold vKfa at h
  split at h
  · cases h; exact ⟨_, _, _, _, _, _, _, _, _, rfl, rfl⟩
  · cases h
section
variable (nm : Nm) (N : List Str) (sc : Scope)
def chkx : XE → Expr → Bool
  | .pure e, pe => chk nm N sc e pe
  | .call f es, .Call (.Name x _) pes [] _ => decide (f < 10000) && decide (nm.fn f = x) && glB sc x && okName x && chks nm N sc es pes
  | .ite c a b, .IfExp pc pa pb _ => tOk c && chk nm N sc c pc && chkx a pa && chkx b pb
  | _, _ => false
/-- name = [..]: stored within the comprehension's frame? -/
def swB (x : Str) (px : Pos) (pe : Expr) : Bool := match pe with
  | .ListComp _ _ s _ => decide (sc.names.lookup x = some .local) && (px.line == pe.pos.line) && !(s.names.any fun (n, k) => n == x && (k == .local || k == .cell))
  | _ => false
def slotC (i : Nat) (x : Str) : Bool := decide (N[i]? = some x) && visB sc x && okName x
def one? : List Expr → Option Expr
  | [e] => some e
  | _ => none
def two? : List Expr → Option (Expr × Expr)
  | [e, f] => some (e, f)
  | _ => none
theorem one_eq {l : List Expr} {e : Expr} (h : one? l = some e) : l = [e] := by
  unfold one? at h
  split at h
  · cases h; rfl
  · cases h
theorem two_eq {l : List Expr} {e : Expr × Expr} (h : two? l = some e) : l = [e.1, e.2] := by
  unfold two? at h
  split at h
  · cases h; rfl
  · cases h
mutual
def chkS : S → Stmt → Bool
  | .asg tg e, st => match vAsg st with
    | some (t, pe, _) => tgC N sc (fun _ => true) tg t && chk nm N sc e pe && (match tg with
      | .nm _ => true
      | .tp _ => !isTup pe)
    | none => false
  | .par is es, st => match vAsg st with
    | some (t, v, _) => (match vTup t, vTup v with
      | some (ptg, _, _), some (pes, _, _) => tgC N sc (fun _ => true) (.tp is) t && chks nm N sc es pes && decide (is.Nodup) && (parK sc ptg pes).isSome && decide (is.length ≤ 100)
      | _, _ => false)
    | none => false
  | .aug op i e, st => match vAug st with
    | some (x, _, po, pe, _) => (decide (op = .add) || decide (op = .mul)) && opEq op.py po && decide (N[i]? = some x) && locB sc x && chk nm N sc e pe
    | none => false
  | .app i e, st => match vMeth st with
    | some (x, _, a, pa, pes, pc, _) => (match one? pes with
      | some pe => decide (a = "append") && slotC N sc i x && chk nm N sc e pe && !isStar pe && (pa.endLine == pc.line)
      | none => false)
    | none => false
  | .ext i e, st => match vMeth st with
    | some (x, _, a, pa, pes, pc, _) => (match one? pes with
      | some pe => decide (a = "extend") && slotC N sc i x && chk nm N sc e pe && !isStar pe && (pa.endLine == pc.line)
      | none => false)
    | none => false
  | .ins i k e, st => match vMeth st with
    | some (x, _, a, pa, pes, pc, _) => (match two? pes with
      | some (pk, pe) => decide (a = "insert") && slotC N sc i x && chk nm N sc k pk && chk nm N sc e pe && !isStar pe && !isStar pk && (pa.endLine == pc.line)
      | none => false)
    | none => false
  | .put i k e, st => match vAsg st with
    | some (t, pe, _) => (match vSub t with
      | some (x, _, pk, _) => slotC N sc i x && chk nm N sc k pk && chk nm N sc e pe && !isSlice pk && !isCompr pe
      | none => false)
    | none => false
  | .rob _ _ _, _ => false
  | .asgC i f es, st => match vAsg st with
    | some (t, v, _) => (match vCall v with
      | some (y, _, pes, _) => tgNm N sc (fun _ => true) i t && decide (f < 10000) && decide (nm.fn f = y) && glB sc y && okName y && chks nm N sc es pes && !pes.isEmpty
      | none => false)
    | none => false
  | .unp is j, st => match vAsg st with
    | some (t, v, _) => (match vTup t, vName v with
      | some _, some (x, _) => tgC N sc (fun _ => true) (.tp is) t && slotC N sc j x
      | _, _ => false)
    | none => false
  | .fap i c e, st => match vExp st with
    | some (v, _) => (match vFap v with
      | some (x, _, f, _, m, pa, pe, pc) => decide (m = "append") && slotC N sc i x && decide (nm.fl c = f) && decide (f ≠ "") && chk nm N sc e pe && !isStar pe && (pa.endLine == pc.line)
      | none => false)
    | none => false
  | .kfa x i k, st => match vFor st with
    | some (ptg, pit, pb, _) => (match vName ptg, vName pit, vKfa pb with
      | some (y, _), some (z, _), some (y', _, m, pa, k', _, _, pc, _) => tgNm N sc (fun _ => true) x ptg && slotC N sc x y && decide (y' = y) && decide (m = "append") && decide (k' = k) && slotC N sc i z && (pa.endLine == pc.line)
      | _, _, _ => false)
    | none => false
  | .asgS i j k, st => match vAsg st with
    | some (t, v, _) => (match vSub v with
      | some (y, _, pk, _) => tgNm N sc (fun _ => true) i t && slotC N sc j y && chk nm N sc k pk && !isSlice pk
      | none => false)
    | none => false
  | .pop j i, st => match vAsg st with
    | some (t, v, _) => (match vPop v with
      | some (y, _, m, pa, pc) => decide (m = "pop") && tgNm N sc (fun _ => true) j t && slotC N sc i y && (pa.endLine == pc.line)
      | none => false)
    | none => false
  | .put2 i k k' e e', st => match vAsg st with
    | some (t, v, _) => (match vTup t, vTup v with
      | some (ts, _, _), some (vs, _, _) => (match two? ts, two? vs with
        | some (t1, t2), some (pe, pe') => (match vSub t1, vSub t2 with
          | some (x, _, pk, _), some (y, _, pk', _) => slotC N sc i x && decide (x = y) && chk nm N sc k pk && chk nm N sc k' pk' && chk nm N sc e pe && chk nm N sc e' pe' && !isSlice pk && !isSlice pk' && !isStar pe && !isStar pe'
          | _, _ => false)
        | _, _ => false)
      | _, _ => false)
    | none => false
  | .iff c a b, st => match vIf st with
    | some (pc, pa, pb, _) => tOk c && chk nm N sc c pc && chkSs a pa && chkSs b pb
    | none => false
  | .for_ tg it b, st => match vFor st with
    | some (ptg, pit, pb, _) => chki nm N sc it ptg pit && tgC N sc (fun _ => true) tg ptg && chkSs b pb
    | none => false
  | .whl c b, st => match vWhl st with
    | some (pc, pb, _) => tOk c && chk nm N sc c pc && chkSs b pb
    | none => false
  | .asgF i e, st => match vAsg st with
    | some (t, pe, _) => tgNm N sc (fun _ => true) i t && chk nm N sc e pe
    | none => false
  | .fro tg i b, st => match vFor st with
    | some (ptg, pit, pb, _) => (match vName pit with
      | some (z, _) => slotC N sc i z && tgC N sc (fun _ => true) tg ptg && chkSs b pb
      | none => false)
    | none => false
  | .lck _ s, st => chkS s st
  | .ret _ x, st => match vRet st with
    | some (pe, _) => chkx nm N sc x pe
    | none => false
  | .exp x, st => match vExp st with
    | some (pe, _) => chkx nm N sc x pe && !isCompr pe
    | none => false
  | .rse c, st => match vRse st with
    | some (x, _) => decide (c < 20) && decide (nm.cl c = x) && glB sc x && okName x && decide (x ≠ "")
    | none => false
def chkSs : SL → List Stmt → Bool
  | .nil, st => st.isEmpty
  | .cons s r, st => match st with
    | st :: rest => chkS s st && chkSs r rest
    | [] => false
end
end
section
variable {X : Cx} {CL : Nat → Addr × List Str} {nm : Nm} {gv : Nat → Option Int} {Φ : Nat → List T → Option R} {H0 : Hp} {pos : Pos} {Ew : XK} {W n : Nat}
theorem sdX (hT : Tb X CL nm gv Φ) (hX : Tx X CL nm Ew) : ∀ (x : XE) (pe : Expr), chkx nm X.N X.env.scope x pe = true → ∀ fl, PE X pe (RX X.K CL Ew fl H0 (evx gv Φ x) (atx fl x))
  | .pure e, pe, h, fl => x_pure (sdE e X hT pe (by simpa only [chkx] using h) fl H0).1
  | .call f es, pe, h, fl => by
    cases pe with
    | Call fn pes kws pos => cases fn with
      | Name x p => cases kws with
        | nil =>
          simp only [chkx, Bool.and_eq_true, decide_eq_true_eq] at h
          obtain ⟨⟨⟨h1, h2⟩, h3⟩, h4⟩ := h
          obtain ⟨g1, g2⟩ := sdA es X hT pes h4 fl H0
          cases pes with
          | nil =>
            cases es with
            | nil => exact x_call0 hT hX h1.1 h1.2 (gl_ok h2) (name_ok h3).1
            | cons _ _ => simp [chks] at h4
          | cons pe pes =>
            rw [List.all_cons, Bool.and_eq_true] at g2
            exact x_call hT hX h1.1 h1.2 (gl_ok h2) (name_ok h3).1 g1 (not_false g2.1) g2.2
        | cons _ _ => cases h
      | _ => cases h
    | _ => cases h
  | .ite c a b, pe, h, fl => by
    cases pe with
    | IfExp pc pa pb pos =>
      simp only [chkx, Bool.and_eq_true] at h
      obtain ⟨⟨⟨h0, h1⟩, h2⟩, h3⟩ := h
      exact x_ite ((sdE c X hT pc h1 fl H0).2.1 h0) (sdX hT hX a pa h2 fl) (sdX hT hX b pb h3 fl)
    | _ => cases h
theorem sdP (hT : Tb X CL nm gv Φ) : ∀ (es : EL) (pes : List Expr), chks nm X.N X.env.scope es pes = true → ∀ k fl, PA X pes (RP X.K CL (evs gv Φ es) n k fl (flTmp (n + k) es fl) H0)
  | .nil, pes, h, k, fl => by
    cases pes with
    | nil => exact p_nil
    | cons _ _ => cases h
  | .cons e es, pes, h, k, fl => by
    cases pes with
    | nil => cases h
    | cons pe pes =>
      simp only [chks, Bool.and_eq_true] at h
      exact p_cons (sdE e X hT pe h.1.1 fl H0).1 (sdP hT es pes h.2 (k + 1) _) (not_false h.1.2)
theorem chks_len {N : List Str} {sc : Scope} : ∀ {es : EL} {pes : List Expr}, chks nm N sc es pes = true → pes.length = es.len
  | .nil, [], _ => rfl
  | .nil, _ :: _, h => by cases h
  | .cons e es, [], h => by cases h
  | .cons e es, pe :: pes, h => by
    simp only [chks, Bool.and_eq_true] at h
    rw [List.length_cons, chks_len h.2]; rfl
theorem slot_ok {i : Nat} {x : Str} (h : slotC X.N X.env.scope i x = true) : X.N[i]? = some x ∧ Vis X.env.scope x ∧ (x == ("__debug__" : Str)) = false ∧ (x == ("__classdict__" : Str)) = false := by
  unfold slotC at h
  rw [Bool.and_eq_true, Bool.and_eq_true, decide_eq_true_eq] at h
  obtain ⟨n1, n2, _⟩ := name_ok h.2
  exact ⟨h.1.1, vis_ok h.1.2, n1, n2⟩
theorem lcf {x : Str} {px : Pos} {e : Expr} {gs : List Comprehension} {s : Scope} {p : Pos} {l : Nat} (hk : X.env.scope.kind = .function) :
    swapsWith (.ListComp e gs s p) (some (.Name x px)) l X.env = pure (swB X.env.scope x px (.ListComp e gs s p)) := by
  have e1 : swapsWith (.ListComp e gs s p) (some (.Name x px)) l X.env = pure (X.env.blockKind == .function && X.env.kindOf x == some .local && px.line == p.line && !(s.names.any fun (n, k) => n == x && (k == .local || k == .cell))) := rfl
  rw [e1]
  congr 1
  have hb : X.env.blockKind = .function := by unfold Env.blockKind; rw [hk]; rfl
  rw [hb]
  show (true && X.env.kindOf x == some .local && px.line == p.line && _) = (decide (X.env.scope.names.lookup x = some .local) && (px.line == p.line) && _)
  have hd : (X.env.kindOf x == some NameKind.local) = decide (X.env.scope.names.lookup x = some .local) := by
    rw [Bool.eq_iff_iff, decide_eq_true_eq]
    exact beq_iff_eq
  rw [hd, Bool.true_and]
theorem s_nmT (hT : Tb X CL nm gv Φ) (hX : Tx X CL nm Ew) {i : Nat} {e : E} {x : Str} {px : Pos} {pe : Expr} (h1 : tgNm X.N X.env.scope (fun _ => true) i (.Name x px) = true) (h2 : chk nm X.N X.env.scope e pe = true) (fl : Fl) :
    ∃ te, PS X (.Assign [.Name x px] pe pos) (tAsg te (gName i)) ∧ ∀ σ H Q, RE X.K CL fl H0 (ev gv Φ e) (at_ fl e) σ H Q → te σ H Q := by
  have he := (sdE e X hT pe h2 fl H0).1
  simp only [tgNm, Bool.and_eq_true, decide_eq_true_eq] at h1
  have hl := loc_ok h1.1.2
  cases hc : isCompr pe with
  | false => exact ⟨_, ps_set hT.nd h1.1.1 hl he (comp_ok hc) (.inl (hX.fn x)), fun _ _ _ z => z⟩
  | true =>
    cases pe with
    | ListComp ple gs scope lp =>
      cases hs : swB X.env.scope x px (.ListComp ple gs scope lp) with
      | false => exact ⟨_, ps_set hT.nd h1.1.1 hl he (by rw [lcf hX.kind, hs]) (.inl (hX.fn x)), fun _ _ _ z => z⟩
      | true =>
        have hloc : X.env.scope.names.lookup x = some .local := by
          have hs' := hs
          simp only [swB, Bool.and_eq_true, decide_eq_true_eq] at hs'
          exact hs'.1.1
        cases e with
        | lc vs tg it c e =>
          match gs, h2, he with
          | [⟨ptg, pit, pifs, as⟩], h2, he =>
            simp only [chk, Bool.and_eq_true, decide_eq_true_eq] at h2
            obtain ⟨⟨⟨⟨⟨⟨g1, g2⟩, g3⟩, g4⟩, g5⟩, g6⟩, g7⟩ := h2
            subst g1
            obtain ⟨gi, gs⟩ := sdI it X hT ptg pit g2 fl H0
            have key := ps_setLc (X := X) (pos := lp) (spos := pos) (i := i) (y := x) (py := px) (own := lookAll X.N vs) (g := RG X.K CL tg) (tt := RT X.K CL (flBlk fl vs (ati fl it)) H0 (evc gv Φ c)) (te := RE X.K CL (flBlk fl vs (ati fl it)) H0 (ev gv Φ e) (at_ (flBlk fl vs (ati fl it)) e))
              hT.calm hT.nd h1.1.1 hloc (by rw [lcf hX.kind, hs]) gi (blkOk_by g3)
              (fun s H C cl fp => g_tg (X := X.blk s H scope (compEnvC scope cl C X.env) fp) hT.nd hT.calm g4 (fun x hx => hx))
              (fun s H C cl fp => (sdO c (X.blk s H scope (compEnvC scope cl C X.env) fp) (hT.blk s H scope _ fp)).2 pifs g6 _ H0)
              (fun s H C cl fp => (sdE e (X.blk s H scope (compEnvC scope cl C X.env) fp) (hT.blk s H scope _ fp) ple g7 _ H0).1)
              (set_ok gs)
            rw [lookAll_map] at key
            exact ⟨_, key, fun σ H Q hw => e_lcT (X := X) g5 hw⟩
          | [], h2, _ => cases h2
          | _ :: _ :: _, h2, _ => simp [chk] at h2
        | blt b es => cases b <;> cases h2
        | _ => cases h2
    | SetComp _ _ _ _ => cases e with
      | blt b es => cases b <;> cases h2
      | _ => cases h2
    | DictComp _ _ _ _ _ => cases e with
      | blt b es => cases b <;> cases h2
      | _ => cases h2
    | _ => cases hc
theorem s_nm (hT : Tb X CL nm gv Φ) (hX : Tx X CL nm Ew) {i : Nat} {e : E} {x : Str} {px : Pos} {pe : Expr} (h1 : tgNm X.N X.env.scope (fun _ => true) i (.Name x px) = true) (h2 : chk nm X.N X.env.scope e pe = true) (fl : Fl) :
    PS X (.Assign [.Name x px] pe pos) (RS X.K CL Ew n fl (some (flSet (flDrop fl (at_ fl e).ret) i (at_ fl e).fr (at_ fl e).nw)) H0 (exec gv Φ W (.asg (.nm i) e))) := by
  obtain ⟨te, h, m⟩ := s_nmT (H0 := H0) (pos := pos) hT hX h1 h2 fl
  exact s_asg h m
/-- a new thing without parts that change -/
theorem s_asgF (hT : Tb X CL nm gv Φ) (hX : Tx X CL nm Ew) {i : Nat} {e : E} {x : Str} {px : Pos} {pe : Expr} (h1 : tgNm X.N X.env.scope (fun _ => true) i (.Name x px) = true) (h2 : chk nm X.N X.env.scope e pe = true) {fl : Fl} (hf : (at_ fl e).fr = true) :
    PS X (.Assign [.Name x px] pe pos) (RS X.K CL Ew n fl (some (flSetD fl i)) H0 (exec gv Φ W (.asgF i e))) := by
  obtain ⟨te, h, m⟩ := s_nmT (H0 := H0) (pos := pos) hT hX h1 h2 fl
  refine PS.imp h fun D σ H hw => ?_
  obtain ⟨env, O, out, hn, ok, hx, q⟩ := hw
  simp only [exec] at hx
  obtain ⟨t, ht, hz⟩ := bind1 hx
  obtain ⟨hfl, rfl⟩ := ite1 hz
  refine m σ H _ ⟨env, O, t, ok, ht, fun v H' e' r f => ?_⟩
  obtain ⟨O', ok', st'⟩ := ok_setD i ok e' (flat_fresh hfl (f hf) r)
  exact q.go ok' st'
/-- the state within a reading loop: H1, env0, σ0 at its start; Mt the loop's names, Ma those stored within -/
structure RoI (K : PySem.W.Frag) (CL : Nat → Addr × List Str) (H0 H1 : Hp) (σ0 : L2.St) (env0 : Env) (Mt Ma : List Nat) (env : Env) (σ : L2.St) (H : Hp) : Prop where
  len : σ.length = env.length
  el : env.length = env0.length
  e0 : Ex H0 H1
  ex : Ex H1 H
  un : ∀ (j : Nat) (u : T), j ∉ Mt → j ∉ Ma → env[j]? = some (some u) → env0[j]? = some (some u) ∧ σ[j]? = σ0[j]?
  as : ∀ (j : Nat) (u : T), j ∉ Mt → j ∈ Ma → env[j]? = some (some u) → (∃ v, σ[j]? = some (some v) ∧ Rep K CL H u (fun b => H1 b = none) v) ∨ (env0[j]? = some (some u) ∧ σ[j]? = σ0[j]?)
  al : ∀ (j : Nat) (u : T), env[j]? = some (some u) → ∃ v, σ[j]? = some (some v) ∧ Rep K CL H u (fun _ => True) v
theorem RoI.ok {K : PySem.W.Frag} {H1 H : Hp} {σ0 σ : L2.St} {env0 env : Env} {Mt Ma : List Nat} (r : RoI K CL H0 H1 σ0 env0 Mt Ma env σ H) : Ok K CL H0 ⟨[], [], []⟩ env σ H (fun _ _ => False) where
  len := r.len
  ex := r.e0.trans r.ex
  of_ := fun _ _ z => z.elim
  oa := fun _ _ z => z.elim
  ds := fun _ _ _ z => z.elim
  fz := fun _ _ _ z => z.elim
  sl := fun i t h => by
    obtain ⟨v, h1, h2⟩ := r.al i t h
    exact ⟨v, h1, h2.mono fun b _ => ⟨fun _ z => z.elim, fun z => by cases z⟩, fun z => by cases z⟩
  dp := fun i t v z => by cases z
theorem RoI.exd {K : PySem.W.Frag} {H1 H H' : Hp} {σ0 σ : L2.St} {env0 env : Env} {Mt Ma : List Nat} (r : RoI K CL H0 H1 σ0 env0 Mt Ma env σ H) (e : Ex H H') : RoI K CL H0 H1 σ0 env0 Mt Ma env σ H' where
  len := r.len
  el := r.el
  e0 := r.e0
  ex := r.ex.trans e
  un := r.un
  as := fun j u h0 h1 h2 => by
    rcases r.as j u h0 h1 h2 with ⟨v, g1, g2⟩ | g
    · exact .inl ⟨v, g1, g2.ex e⟩
    · exact .inr g
  al := fun j u h => by
    obtain ⟨v, g1, g2⟩ := r.al j u h
    exact ⟨v, g1, g2.ex e⟩
theorem RoI.set {K : PySem.W.Frag} {H1 H H' : Hp} {σ0 σ : L2.St} {env0 env : Env} {Mt Ma : List Nat} {i : Nat} {t : T} {v : V} (r : RoI K CL H0 H1 σ0 env0 Mt Ma env σ H) (e : Ex H H') (hi : i ∈ Ma) (h : Rep K CL H' t (fun b => H b = none) v) : RoI K CL H0 H1 σ0 env0 Mt Ma (env.set i (some t)) (σ.set i (some v)) H' where
  len := by simp [r.len]
  el := by simp [r.el]
  e0 := r.e0
  ex := r.ex.trans e
  un := fun j u h0 h1 h2 => by
    have hn : i ≠ j := fun z => h1 (z ▸ hi)
    rw [List.getElem?_set_ne hn] at h2 ⊢
    exact r.un j u h0 h1 h2
  as := fun j u h0 h1 h2 => by
    by_cases hn : i = j
    · subst hn
      have hlt : i < env.length := by
        have := (List.getElem?_eq_some_iff.mp h2).1
        simpa using this
      rw [List.getElem?_set_self hlt] at h2
      cases h2
      exact .inl ⟨v, List.getElem?_set_self (by rw [r.len]; exact hlt), h.mono fun b hb => ex_none r.ex hb⟩
    · rw [List.getElem?_set_ne hn] at h2
      rcases r.as j u h0 h1 h2 with ⟨w, g1, g2⟩ | g
      · exact .inl ⟨w, by rw [List.getElem?_set_ne hn]; exact g1, g2.ex e⟩
      · exact .inr ⟨g.1, by rw [List.getElem?_set_ne hn]; exact g.2⟩
  al := fun j u h2 => by
    by_cases hn : i = j
    · subst hn
      have hlt : i < env.length := by
        have := (List.getElem?_eq_some_iff.mp h2).1
        simpa using this
      rw [List.getElem?_set_self hlt] at h2
      cases h2
      exact ⟨v, List.getElem?_set_self (by rw [r.len]; exact hlt), h.mono fun b hb => trivial⟩
    · rw [List.getElem?_set_ne hn] at h2
      obtain ⟨w, g1, g2⟩ := r.al j u h2
      exact ⟨w, by rw [List.getElem?_set_ne hn]; exact g1, g2.ex e⟩
/-- the reading of such a body -/
def RR (K : PySem.W.Frag) (CL : Nat → Addr × List Str) (H0 H1 : Hp) (σ0 : L2.St) (env0 : Env) (Mt Ma : List Nat) (f : Env → Option Out) : TS := fun D σ H => ∃ env out, RoI K CL H0 H1 σ0 env0 Mt Ma env σ H ∧ f env = some out ∧
  (∀ env', out = .nx env' → ∀ σ' H', RoI K CL H0 H1 σ0 env0 Mt Ma env' σ' H' → D.nx σ' H') ∧ (∀ t, out = .rt t → ∀ v H', Ex H0 H' → Rep K CL H' t (fun a => H0 a = none) v → D.rt v H')
mutual
theorem sdR (hT : Tb X CL nm gv Φ) (hX : Tx X CL nm Ew) {H1 : Hp} {σ0 : L2.St} {env0 : Env} {Mt Ma : List Nat} : ∀ (s : S) (st : Stmt), chkS nm X.N X.env.scope s st = true → roOk s = true → (∀ j ∈ asgd s, j ∈ Ma) → PS X st (RR X.K CL H0 H1 σ0 env0 Mt Ma (exec gv Φ W s))
  | .asgF i e, st, h, hr, ha => by
    rw [chkS] at h
    cases e0 : vAsg st with
    | none => rw [e0] at h; cases h
    | some q =>
      rw [e0] at h
      obtain ⟨t, pe, pos, rfl, rfl⟩ := vAsg_eq e0
      clear e0
      simp only [Bool.and_eq_true] at h
      obtain ⟨h1, h2⟩ := h
      obtain ⟨x, px, rfl⟩ := nm_name h1
      obtain ⟨te, h, m⟩ := s_nmT (H0 := H0) (pos := pos) hT hX h1 h2 ⟨[], [], []⟩
      refine PS.imp h fun D σ H hw => ?_
      obtain ⟨env, out, rI, hx, q1, q2⟩ := hw
      simp only [exec] at hx
      obtain ⟨t, ht, hz⟩ := bind1 hx
      obtain ⟨hfl, rfl⟩ := ite1 hz
      refine m σ H _ ⟨env, _, t, rI.ok, ht, fun v H' e' r f => ?_⟩
      have hfr : (at_ ⟨[], [], []⟩ e).fr = true := by simpa only [roOk] using hr
      exact q1 _ rfl _ _ (rI.set e' (ha i (by simp [asgd])) (flat_fresh hfl (f hfr) r))
  | .iff c a b, st, h, hr, ha => by
    rw [chkS] at h
    cases e0 : vIf st with
    | none => rw [e0] at h; cases h
    | some q =>
      rw [e0] at h
      obtain ⟨pc, pa, pb, pos, rfl, rfl⟩ := vIf_eq e0
      clear e0
      simp only [Bool.and_eq_true] at h
      obtain ⟨⟨⟨h1, h2⟩, h3⟩, h4⟩ := h
      simp only [roOk, Bool.and_eq_true] at hr
      have hc := (sdE c X hT pc h2 ⟨[], [], []⟩ H0).2.1 h1
      have ha1 := sdRs hT hX (H1 := H1) (σ0 := σ0) (env0 := env0) (Mt := Mt) (Ma := Ma) a pa h3 hr.1 (fun j hj => ha j (by simp [asgd, hj]))
      have ha2 := sdRs hT hX (H1 := H1) (σ0 := σ0) (env0 := env0) (Mt := Mt) (Ma := Ma) b pb h4 hr.2 (fun j hj => ha j (by simp [asgd, hj]))
      refine PS.imp (ps_if hc ha1 ha2) fun D σ H hw => ?_
      obtain ⟨env, out, rI, hx, q1, q2⟩ := hw
      simp only [exec] at hx
      obtain ⟨k, hk, hx⟩ := bind1 hx
      cases k with
      | bl k =>
        cases k with
        | true => exact ⟨env, _, true, rI.ok, hk, fun H2 e2 => iteT ⟨env, out, rI.exd e2, hx, q1, q2⟩⟩
        | false => exact ⟨env, _, false, rI.ok, hk, fun H2 e2 => iteF ⟨env, out, rI.exd e2, hx, q1, q2⟩⟩
      | _ => cases hx
  | .ret m (.pure e), st, h, hr, ha => by
    rw [chkS] at h
    cases e0 : vRet st with
    | none => rw [e0] at h; cases h
    | some q =>
      rw [e0] at h
      obtain ⟨pe, pos, rfl, rfl⟩ := vRet_eq e0
      clear e0
      have hm : m = 2 := by simpa [roOk] using hr
      subst hm
      have hc := (sdE e X hT pe (by simpa only [chkx] using h) ⟨[], [], []⟩ H0).1
      refine PS.imp (ps_ret hc) fun D σ H hw => ?_
      obtain ⟨env, out, rI, hx, q1, q2⟩ := hw
      simp only [exec, evx] at hx
      obtain ⟨r, hr1, hx⟩ := bind1 hx
      obtain ⟨t, ht, rfl⟩ := map1 hr1
      simp only [Nat.reduceEqDiff, if_false] at hx
      obtain ⟨hi, rfl⟩ := ite1 hx
      exact ⟨env, _, t, rI.ok, ht, fun v H' e' r f => q2 t rfl v H' ((rI.e0.trans rI.ex).trans e') (r.imm hi)⟩
  | .asg _ _, _, _, hr, _ => by simp [roOk] at hr
  | .par _ _, _, _, hr, _ => by simp [roOk] at hr
  | .aug _ _ _, _, _, hr, _ => by simp [roOk] at hr
  | .put2 _ _ _ _ _, _, _, hr, _ => by simp [roOk] at hr
  | .asgC _ _ _, _, _, hr, _ => by simp [roOk] at hr
  | .unp _ _, _, _, hr, _ => by simp [roOk] at hr
  | .fap _ _ _, _, _, hr, _ => by simp [roOk] at hr
  | .kfa _ _ _, _, _, hr, _ => by simp [roOk] at hr
  | .pop _ _, _, _, hr, _ => by simp [roOk] at hr
  | .asgS _ _ _, _, _, hr, _ => by simp [roOk] at hr
  | .app _ _, _, _, hr, _ => by simp [roOk] at hr
  | .ext _ _, _, _, hr, _ => by simp [roOk] at hr
  | .ins _ _ _, _, _, hr, _ => by simp [roOk] at hr
  | .put _ _ _, _, _, hr, _ => by simp [roOk] at hr
  | .for_ _ _ _, _, _, hr, _ => by simp [roOk] at hr
  | .whl _ _, _, _, hr, _ => by simp [roOk] at hr
  | .lck _ _, _, _, hr, _ => by simp [roOk] at hr
  | .fro _ _ _, _, _, hr, _ => by simp [roOk] at hr
  | .ret _ (.call _ _), _, _, hr, _ => by simp [roOk] at hr
  | .ret _ (.ite _ _ _), _, _, hr, _ => by simp [roOk] at hr
  | .exp _, _, _, hr, _ => by simp [roOk] at hr
  | .rse _, _, _, hr, _ => by simp [roOk] at hr
  | .rob _ _ _, _, _, hr, _ => by simp [roOk] at hr
theorem sdRs (hT : Tb X CL nm gv Φ) (hX : Tx X CL nm Ew) {H1 : Hp} {σ0 : L2.St} {env0 : Env} {Mt Ma : List Nat} : ∀ (s : SL) (st : List Stmt), chkSs nm X.N X.env.scope s st = true → roOks s = true → (∀ j ∈ asgds s, j ∈ Ma) → PSs X st (RR X.K CL H0 H1 σ0 env0 Mt Ma (execs gv Φ W s))
  | .nil, st, h, hr, ha => by
    cases st with
    | nil =>
      refine PSs.imp pss_nil fun D σ H hw => ?_
      obtain ⟨env, out, rI, hx, q1, q2⟩ := hw
      simp only [execs] at hx
      cases hx
      exact q1 _ rfl _ _ rI
    | cons _ _ => cases h
  | .cons s r, st, h, hr, ha => by
    cases st with
    | nil => cases h
    | cons st rest =>
      simp only [chkSs, Bool.and_eq_true] at h
      simp only [roOks, Bool.and_eq_true] at hr
      have g1 := sdR hT hX (H1 := H1) (σ0 := σ0) (env0 := env0) (Mt := Mt) (Ma := Ma) s st h.1 hr.1 (fun j hj => ha j (by simp [asgds, hj]))
      have g2 := sdRs hT hX (H1 := H1) (σ0 := σ0) (env0 := env0) (Mt := Mt) (Ma := Ma) r rest h.2 hr.2 (fun j hj => ha j (by simp [asgds, hj]))
      refine PSs.imp (pss_cons g1 g2) fun D σ H hw => ?_
      obtain ⟨env, out, rI, hx, q1, q2⟩ := hw
      simp only [execs] at hx
      obtain ⟨o, ho, hx⟩ := bind1 hx
      refine ⟨env, o, rI, ho, fun env' z σ' H' rI' => ?_, fun t z => ?_⟩
      · subst z
        exact ⟨env', out, rI', hx, q1, q2⟩
      · subst z
        cases hx
        exact q2 t rfl
end
theorem flFro_ow {fl : Fl} {l : List Nat} {j : Nat} : (flFro fl l).ow.contains j = (fl.ow.contains j && !l.contains j) := contains_filter
theorem flFro_dp {fl : Fl} {l : List Nat} {j : Nat} : (flFro fl l).dp.contains j = (fl.dp.contains j && !l.contains j) := contains_filter
theorem wipeE_mem : ∀ {vs : List Nat} {env : Env} {j : Nat}, j ∉ vs → (wipeE env vs)[j]? = env[j]?
  | [], env, j, _ => rfl
  | v :: vs, env, j, h => by
    have h1 : v ≠ j := fun z => h (by rw [z]; exact List.mem_cons_self)
    show ((wipeE env vs).set v none)[j]? = _
    rw [List.getElem?_set_ne h1]
    exact wipeE_mem fun z => h (List.mem_cons_of_mem _ z)
/-- behind the loop -/
theorem ro_end {K : PySem.W.Frag} {H1 H : Hp} {σ0 σ : L2.St} {env0 env : Env} {Mt Ma : List Nat} {fl : Fl} {O : AR} (ok : Ok K CL H0 fl env0 σ0 H1 O) (r : RoI K CL H0 H1 σ0 env0 Mt Ma env σ H) :
    ∃ O', Ok K CL H0 (flFro fl (Mt ++ Ma)) (wipeE env Mt) σ H O' ∧ Step (uni O) H1 (uni O') H := by
  have hold : ∀ (j : Nat) (u : T), env0[j]? = some (some u) → σ[j]? = σ0[j]? → ∃ v, σ[j]? = some (some v) ∧ Rep K CL H u (SlS O j (fl.nw.contains j) H0) v ∧ (fl.ow.contains j = true → mutR u = true → ∃ a, v = .ref a ∧ O j a) := fun j u h1 h2 => by
    obtain ⟨v, g1, g2, g3⟩ := ok.sl j u h1
    exact ⟨v, by rw [h2]; exact g1, g2.ex r.ex, g3⟩
  refine ⟨fun g b => O g b ∧ (Mt ++ Ma).contains g = false, ⟨by rw [wipeE_len]; exact r.len, r.e0.trans r.ex, fun g b hb => ok.of_ g b hb.1, fun g b hb => ex_live r.ex b (ok.oa g b hb.1), fun g k b g1 g2 => ok.ds g k b g1.1 g2.1, fun g b o hb hz => (ok.exd r.ex).fz g b o hb.1 hz, fun j u hj => ?_, fun j u w g1 g2 g3 g4 => ?_⟩, Step.ex r.ex fun b hb => .inl (let ⟨g, hb⟩ := hb; ⟨g, hb.1⟩)⟩
  · obtain ⟨hj1, hj2⟩ := wipeE_get hj
    have hnw : (flFro fl (Mt ++ Ma)).nw = fl.nw := rfl
    rw [hnw]
    have fin : (∃ v, σ[j]? = some (some v) ∧ Rep K CL H u (SlS O j (fl.nw.contains j) H0) v ∧ (fl.ow.contains j = true → mutR u = true → ∃ a, v = .ref a ∧ O j a)) → ∃ v, σ[j]? = some (some v) ∧ Rep K CL H u (SlS (fun g b => O g b ∧ (Mt ++ Ma).contains g = false) j (fl.nw.contains j) H0) v ∧ ((flFro fl (Mt ++ Ma)).ow.contains j = true → mutR u = true → ∃ a, v = .ref a ∧ (O j a ∧ (Mt ++ Ma).contains j = false)) := fun ⟨v, q1, q2, q3⟩ => by
      refine ⟨v, q1, q2.mono fun b hb => ⟨fun g ob => hb.1 g ob.1, hb.2⟩, fun z1 z2 => ?_⟩
      rw [flFro_ow, Bool.and_eq_true] at z1
      obtain ⟨a, y1, y2⟩ := q3 z1.1 z2
      exact ⟨a, y1, y2, by simpa using z1.2⟩
    by_cases hma : j ∈ Ma
    · rcases r.as j u hj2 hma hj1 with ⟨v, q1, q2⟩ | ⟨q1, q2⟩
      · refine ⟨v, q1, q2.mono fun b hb => ⟨fun g ob => absurd hb (ok.oa g b ob.1), fun _ => ex_none ok.ex hb⟩, fun z1 _ => ?_⟩
        rw [flFro_ow, Bool.and_eq_true, List.contains_iff_mem.mpr (List.mem_append_right _ hma)] at z1
        cases z1.2
      · exact fin (hold j u q1 q2)
    · obtain ⟨q1, q2⟩ := r.un j u hj2 hma hj1
      exact fin (hold j u q1 q2)
  · obtain ⟨hj1, hj2⟩ := wipeE_get g3
    rw [flFro_dp, Bool.and_eq_true] at g1
    rw [flFro_ow, Bool.and_eq_true] at g2
    have hma : j ∉ Ma := fun z => by
      have := g1.2
      rw [List.contains_iff_mem.mpr (List.mem_append_right _ z)] at this
      cases this
    obtain ⟨q1, q2⟩ := r.un j u hj2 hma hj1
    rw [q2] at g4
    exact ((ok.dp j u w g1.1 g2.1 q1 g4).mono fun b hb => ⟨hb, by simpa using g1.2⟩).ex r.ex
theorem s_fro (hT : Tb X CL nm gv Φ) (hX : Tx X CL nm Ew) {tg : Tg} {i : Nat} {b : SL} {ptg pit : Expr} {pb : List Stmt} {fl : Fl} (hi : PI X ptg pit (RI X.K CL fl H0 (evi gv Φ (.seq (.var i))) (ati fl (.seq (.var i))))) (hs : isSet pit = false) (hg : tgC X.N X.env.scope (fun _ => true) tg ptg = true)
    (hb : ∀ H1 σ0 env0, PSs X pb (RR X.K CL H0 H1 σ0 env0 (tgSlots tg) (asgds b) (execs gv Φ W b))) :
    PS X (.For ptg pit pb [] pos) (RS X.K CL Ew n fl (some (flFro fl (tgSlots tg ++ asgds b))) H0 (exec gv Φ W (.fro tg i b))) := by
  have hbx : PSs X pb (fun D σ H => ∃ H1 σ0 env0, RR X.K CL H0 H1 σ0 env0 (tgSlots tg) (asgds b) (execs gv Φ W b) D σ H) := ⟨fun pins s σ H D I ⟨H1, σ0, env0, h⟩ => (hb H1 σ0 env0).run pins s σ H D I h⟩
  refine PS.imp (ps_for hX.own hT.calm hi (g_tg (CL := CL) hT.nd hT.calm hg fun x _ => hX.fn x) hbx (set_ok hs)) fun D σ H hw => ?_
  obtain ⟨env, O, out, hn, ok, hx, q⟩ := hw
  simp only [exec] at hx
  obtain ⟨x, hsl, hx⟩ := bind1 hx
  cases x with
  | lst ts =>
    obtain ⟨o0, ho0, hx⟩ := bind1 hx
    have hev : evi gv Φ (.seq (.var i)) env = some ts := by
      have : ev gv Φ (.var i) env = some (.lst ts) := hsl
      simp only [evi, this, Option.bind_some, seqT]
    refine ⟨env, O, ts, ok, hev, fun hlim J H1 e1 jw => ?_⟩
    have okd := ok.exd e1
    refine ⟨fun i m σ' H' => m = ts.length - i ∧ i ≤ ts.length ∧ ∃ env', RoI X.K CL H0 H1 σ env (tgSlots tg) (asgds b) env' σ' H' ∧ forL (fun t env => bindT tg t env) (fun env => execs gv Φ W b env) (ts.drop i) env' = some o0,
      ⟨ts.length, by simp, Nat.zero_le _, env, ⟨ok.len, rfl, okd.ex, Ex.refl H1, fun j u _ _ h => ⟨h, rfl⟩, fun j u _ _ h => .inr ⟨h, rfl⟩, fun j u h => ?_⟩, by simpa using ho0⟩, ?_⟩
    · obtain ⟨v, h1, h2, _⟩ := okd.sl j u h
      exact ⟨v, h1, h2.mono fun _ _ => trivial⟩
    rintro i m σ' H' ⟨rfl, hile, env', rI, hx'⟩
    obtain ⟨jgo, jst⟩ := jw H' (.of_ex rI.ex) i
    by_cases hlt : i < ts.length
    · right
      have ht : ts[i]? = some ts[i] := List.getElem?_eq_getElem hlt
      obtain ⟨g1, g2⟩ := jgo _ ht
      refine ⟨g1, fun σ2 H2 => ∃ env2, RoI X.K CL H0 H1 σ env (tgSlots tg) (asgds b) env2 σ2 H2 ∧ forL (fun t env => bindT tg t env) (fun env => execs gv Φ W b env) (ts.drop (i + 1)) env2 = some o0,
        fun σ2 H2 z => ⟨ts.length - (i + 1), by omega, rfl, hlt, z⟩, fun x H2 y => ?_⟩
      obtain ⟨e2, rx⟩ := g2 x H2 y
      rw [List.drop_eq_getElem_cons hlt] at hx'
      obtain ⟨env1, hb1, hx'⟩ := bind1 hx'
      obtain ⟨o, ho, hx'⟩ := bind1 hx'
      refine bind_get rI.len hb1 rx fun σ3 hl hg _ _ => ?_
      have rI2 := rI.exd e2
      have rI3 : RoI X.K CL H0 H1 σ env (tgSlots tg) (asgds b) env1 σ3 H2 := by
        refine ⟨hl, by rw [bindT_len hb1]; exact rI.el, rI.e0, rI2.ex, fun j u h0 h1 h2 => ?_, fun j u h0 h1 h2 => ?_, fun j u h2 => ?_⟩
        · rcases hg j u h2 with ⟨_, _, z, _⟩ | ⟨_, z1, z2⟩
          · exact absurd z h0
          · rw [z2]; exact rI2.un j u h0 h1 z1
        · rcases hg j u h2 with ⟨_, _, z, _⟩ | ⟨_, z1, z2⟩
          · exact absurd z h0
          · rw [z2]; exact rI2.as j u h0 h1 z1
        · rcases hg j u h2 with ⟨w, z1, _, z2⟩ | ⟨_, z1, z2⟩
          · exact ⟨w, z1, z2.mono fun _ _ => trivial⟩
          · rw [z2]; exact rI2.al j u z1
      refine ⟨H1, σ, env, env1, o, rI3, ho, fun env2 z σ4 H4 rI4 => ?_, fun t z v H' e' r' => ?_⟩
      · subst z
        exact ⟨env2, rI4, hx'⟩
      · subst z
        cases hx'
        cases hx
        exact q.rt t rfl v H' e' r'
    · left
      have hi2 : i = ts.length := by omega
      subst hi2
      refine ⟨jst (Nat.le_refl _), ?_⟩
      rw [List.drop_length] at hx'
      cases hx'
      cases hx
      obtain ⟨O', ok', st'⟩ := ro_end okd rI
      exact q.go ok' ((Step.ex e1 fun _ z => .inl z).trans st')
  | _ => cases hx
mutual
theorem sdS (hT : Tb X CL nm gv Φ) (hX : Tx X CL nm Ew) : ∀ (s : S) (st : Stmt), chkS nm X.N X.env.scope s st = true → ∀ (fl : Fl) (r : Option Fl), flS n s fl = some r → PS X st (RS X.K CL Ew n fl r H0 (exec gv Φ W s))
  | .asg tg e, st, h, fl, r, hr => by
    rw [chkS] at h
    cases e0 : vAsg st with
    | none => rw [e0] at h; cases h
    | some q =>
      rw [e0] at h
      obtain ⟨t, pe, pos, rfl, rfl⟩ := vAsg_eq e0
      clear e0
      simp only [Bool.and_eq_true] at h
      obtain ⟨⟨h1, h2⟩, h3⟩ := h
      simp only [flS] at hr
      cases hr
      cases tg with
      | nm i =>
        have h1' : tgNm X.N X.env.scope (fun _ => true) i t = true := by simpa only [tgC] using h1
        obtain ⟨x, px, rfl⟩ := nm_name h1'
        exact s_nm hT hX h1' h2 fl
      | tp is =>
        cases t with
        | Tuple pes k p => exact s_tp hT hX h1 (not_false h3) (sdE e X hT pe h2 fl H0).1
        | _ => cases h1
  | .asgC i f es, st, h, fl, r, hr => by
    rw [chkS] at h
    cases e0 : vAsg st with
    | none => rw [e0] at h; cases h
    | some q =>
      rw [e0] at h
      obtain ⟨t, v, pos, rfl, rfl⟩ := vAsg_eq e0
      clear e0
      cases e1 : vCall v with
      | none => simp only [e1] at h; cases h
      | some q1 =>
        obtain ⟨y, p, pes, pc, rfl, rfl⟩ := vCall_eq e1
        simp only [e1, Bool.and_eq_true, decide_eq_true_eq] at h
        obtain ⟨⟨⟨⟨⟨⟨h1, h2⟩, h3⟩, h4⟩, h5⟩, h6⟩, h7⟩ := h
        simp only [flS] at hr
        cases hr
        obtain ⟨x, px, rfl⟩ := nm_name h1
        obtain ⟨g1, g2⟩ := sdA es X hT pes h6 fl H0
        cases pes with
        | nil => cases h7
        | cons pe pes =>
          rw [List.all_cons, Bool.and_eq_true] at g2
          exact s_asgC hT hX h1 h2 h3 (gl_ok h4) (name_ok h5).1 g1 (not_false g2.1) g2.2
  | .unp is j, st, h, fl, r, hr => by
    rw [chkS] at h
    cases e0 : vAsg st with
    | none => rw [e0] at h; cases h
    | some q =>
      rw [e0] at h
      obtain ⟨t, v, pos, rfl, rfl⟩ := vAsg_eq e0
      clear e0
      cases e1 : vTup t with
      | none => simp only [e1] at h; cases h
      | some q1 => cases e2 : vName v with
        | none => simp only [e1, e2] at h; cases h
        | some q2 =>
          obtain ⟨ptg, k, p, rfl, rfl⟩ := vTup_eq e1
          obtain ⟨x, px, rfl, rfl⟩ := vName_eq e2
          simp only [e1, e2, Bool.and_eq_true] at h
          simp only [flS] at hr
          obtain ⟨hc, rfl⟩ := ite1 hr
          simp only [Bool.and_eq_true] at hc
          obtain ⟨q1, q2, q3, q4⟩ := slot_ok h.2
          exact s_unp hT hX h.1 q1 q2 q3 q4 hc.1.1.1.1 hc.1.1.1.2 (not_false hc.1.1.2)
  | .fap i c e, st, h, fl, r, hr => by
    rw [chkS] at h
    cases e0 : vExp st with
    | none => rw [e0] at h; cases h
    | some q =>
      rw [e0] at h
      obtain ⟨v, pos, rfl, rfl⟩ := vExp_eq e0
      clear e0
      cases e1 : vFap v with
      | none => simp only [e1] at h; cases h
      | some q1 =>
        obtain ⟨x, p, f, pf, m, pa, pe, pc, rfl, rfl⟩ := vFap_eq e1
        simp only [e1, Bool.and_eq_true, decide_eq_true_eq] at h
        obtain ⟨⟨⟨⟨⟨⟨h1, h2⟩, h3⟩, h4⟩, h5⟩, h6⟩, h7⟩ := h
        subst h1
        simp only [flS] at hr
        obtain ⟨hc, rfl⟩ := ite1 hr
        simp only [Bool.and_eq_true] at hc
        obtain ⟨q1, q2, q3, q4⟩ := slot_ok h2
        exact s_fap hT q1 q2 q3 q4 h3 h4 (not_false h6) h7 hc.1.1 hc.1.2 (sdE _ X hT pe h5 fl H0).1
  | .kfa x i k, st, h, fl, r, hr => by
    rw [chkS] at h
    cases e0 : vFor st with
    | none => rw [e0] at h; cases h
    | some q =>
      rw [e0] at h
      obtain ⟨ptg, pit, pb, pos, rfl, rfl⟩ := vFor_eq e0
      clear e0
      cases e1 : vName ptg with
      | none => simp only [e1] at h; cases h
      | some q1 => cases e2 : vName pit with
        | none => simp only [e1, e2] at h; cases h
        | some q2 => cases e3 : vKfa pb with
          | none => simp only [e1, e2, e3] at h; cases h
          | some q3 =>
            obtain ⟨y, px, rfl, rfl⟩ := vName_eq e1
            obtain ⟨z, pz, rfl, rfl⟩ := vName_eq e2
            obtain ⟨y', p, m, pa, k', j, p3, pc, p4, rfl, rfl⟩ := vKfa_eq e3
            simp only [e1, e2, e3, Bool.and_eq_true, decide_eq_true_eq] at h
            obtain ⟨⟨⟨⟨⟨⟨h1, h2⟩, h3⟩, h4⟩, h5⟩, h6⟩, h7⟩ := h
            subst h3 h4 h5
            simp only [flS] at hr
            obtain ⟨hc, rfl⟩ := ite1 hr
            simp only [Bool.and_eq_true, decide_eq_true_eq] at hc
            obtain ⟨q1, q2, q3, q4⟩ := slot_ok h2
            obtain ⟨z1, z2, z3, z4⟩ := slot_ok h6
            exact s_kfa hT hX h1 q2 q3 q4 z1 z2 z3 z4 h7 hc.1.1.1 hc.1.1.2 (by have := not_false hc.1.2; simpa using this) hc.2
  | .asgS i j k, st, h, fl, r, hr => by
    rw [chkS] at h
    cases e0 : vAsg st with
    | none => rw [e0] at h; cases h
    | some q =>
      rw [e0] at h
      obtain ⟨t, v, pos, rfl, rfl⟩ := vAsg_eq e0
      clear e0
      cases e1 : vSub v with
      | none => simp only [e1] at h; cases h
      | some q1 =>
        obtain ⟨y, p, pk, p2, rfl, rfl⟩ := vSub_eq e1
        simp only [e1, Bool.and_eq_true] at h
        obtain ⟨⟨⟨h1, h2⟩, h3⟩, h4⟩ := h
        obtain ⟨x, px, rfl⟩ := nm_name h1
        simp only [flS] at hr
        obtain ⟨hc, rfl⟩ := ite1 hr
        simp only [Bool.and_eq_true] at hc
        obtain ⟨q1, q2, q3, q4⟩ := slot_ok h2
        exact s_asgS hT hX h1 q1 q2 q3 q4 (sdE _ X hT pk h3 fl H0).1 (not_false h4) hc.1 (by have := not_false hc.2; simpa using this)
  | .pop j i, st, h, fl, r, hr => by
    rw [chkS] at h
    cases e0 : vAsg st with
    | none => rw [e0] at h; cases h
    | some q =>
      rw [e0] at h
      obtain ⟨t, v, pos, rfl, rfl⟩ := vAsg_eq e0
      clear e0
      cases e1 : vPop v with
      | none => simp only [e1] at h; cases h
      | some q1 =>
        obtain ⟨y, p, m, pa, pc, rfl, rfl⟩ := vPop_eq e1
        simp only [e1, Bool.and_eq_true, decide_eq_true_eq] at h
        obtain ⟨⟨⟨h1, h2⟩, h3⟩, h4⟩ := h
        subst h1
        obtain ⟨x, px, rfl⟩ := nm_name h2
        simp only [flS] at hr
        obtain ⟨hc, rfl⟩ := ite1 hr
        simp only [Bool.and_eq_true] at hc
        obtain ⟨q1, q2, q3, q4⟩ := slot_ok h3
        exact s_pop hT hX h2 q1 q2 q3 q4 h4 hc.1 (by have := not_false hc.2; simpa using this)
  | .par is es, st, h, fl, r, hr => by
    rw [chkS] at h
    cases e0 : vAsg st with
    | none => rw [e0] at h; cases h
    | some q =>
      rw [e0] at h
      obtain ⟨t, v, pos, rfl, rfl⟩ := vAsg_eq e0
      clear e0
      cases e1 : vTup t with
      | none => simp only [e1] at h; cases h
      | some q1 => cases e2 : vTup v with
        | none => simp only [e1, e2] at h; cases h
        | some q2 =>
          obtain ⟨ptg, k, p, rfl, rfl⟩ := vTup_eq e1
          obtain ⟨pes, k2, p2, rfl, rfl⟩ := vTup_eq e2
          simp only [e1, e2, Bool.and_eq_true, decide_eq_true_eq] at h
          obtain ⟨⟨⟨⟨h1, h2⟩, h3⟩, h4⟩, h5⟩ := h
          simp only [flS] at hr
          obtain ⟨hc, rfl⟩ := ite1 hr
          rw [Bool.and_eq_true, List.all_eq_true, beq_iff_eq] at hc
          obtain ⟨b, hb⟩ := Option.isSome_iff_exists.mp h4
          have hL : (LIM : Nat) = 1000000 := rfl
          have := sdP (n := n) (H0 := H0) hT es pes h2 0 (flCut fl n)
          exact s_par hT hX (fun i hi => of_decide_eq_true (hc.1 i hi)) h3 hc.2 (by omega) h1 hb (sdA es X hT pes h2 fl H0).2 this
  | .aug op i e, st, h, fl, r, hr => by
    rw [chkS] at h
    cases e0 : vAug st with
    | none => rw [e0] at h; cases h
    | some q =>
      rw [e0] at h
      obtain ⟨x, p, po, pe, pos, rfl, rfl⟩ := vAug_eq e0
      clear e0
      simp only [Bool.and_eq_true, Bool.or_eq_true, decide_eq_true_eq] at h
      obtain ⟨⟨⟨⟨h1, h2⟩, h3⟩, h4⟩, h5⟩ := h
      have e := opEq_eq h2
      subst e
      simp only [flS] at hr
      cases hr
      exact s_aug hT hX h1 h3 (loc_ok h4) (sdE _ X hT pe h5 fl H0).1
  | .app i e, st, h, fl, r, hr => by
    rw [chkS] at h
    cases e0 : vMeth st with
    | none => rw [e0] at h; cases h
    | some q =>
      rw [e0] at h
      obtain ⟨x, p, a, pa, pes, pc, pos, rfl, rfl⟩ := vMeth_eq e0
      clear e0
      cases e1 : one? pes with
      | none => simp only [e1] at h; cases h
      | some pe =>
        have := one_eq e1
        subst this
        simp only [e1, Bool.and_eq_true, decide_eq_true_eq] at h
        obtain ⟨⟨⟨⟨h1, h2⟩, h3⟩, h4⟩, h5⟩ := h
        subst h1
        simp only [flS] at hr
        obtain ⟨hc, rfl⟩ := ite1 hr
        rw [Bool.and_eq_true] at hc
        obtain ⟨q1, q2, q3, q4⟩ := slot_ok h2
        exact s_app hT q1 q2 q3 q4 (not_false h4) h5 hc.1 (not_false hc.2) (sdE _ X hT pe h3 fl H0).1
  | .ext i e, st, h, fl, r, hr => by
    rw [chkS] at h
    cases e0 : vMeth st with
    | none => rw [e0] at h; cases h
    | some q =>
      rw [e0] at h
      obtain ⟨x, p, a, pa, pes, pc, pos, rfl, rfl⟩ := vMeth_eq e0
      clear e0
      cases e1 : one? pes with
      | none => simp only [e1] at h; cases h
      | some pe =>
        have := one_eq e1
        subst this
        simp only [e1, Bool.and_eq_true, decide_eq_true_eq] at h
        obtain ⟨⟨⟨⟨h1, h2⟩, h3⟩, h4⟩, h5⟩ := h
        subst h1
        simp only [flS] at hr
        obtain ⟨hc, rfl⟩ := ite1 hr
        rw [Bool.and_eq_true] at hc
        obtain ⟨q1, q2, q3, q4⟩ := slot_ok h2
        exact s_ext hT q1 q2 q3 q4 (not_false h4) h5 hc.1 (not_false hc.2) (sdE _ X hT pe h3 fl H0).1
  | .ins i k e, st, h, fl, r, hr => by
    rw [chkS] at h
    cases e0 : vMeth st with
    | none => rw [e0] at h; cases h
    | some q =>
      rw [e0] at h
      obtain ⟨x, p, a, pa, pes, pc, pos, rfl, rfl⟩ := vMeth_eq e0
      clear e0
      cases e1 : two? pes with
      | none => simp only [e1] at h; cases h
      | some pp =>
        obtain ⟨pk, pe⟩ := pp
        have := two_eq e1
        subst this
        simp only [e1, Bool.and_eq_true, decide_eq_true_eq] at h
        obtain ⟨⟨⟨⟨⟨⟨h1, h2⟩, h3⟩, h4⟩, h5⟩, h6⟩, h7⟩ := h
        subst h1
        simp only [flS] at hr
        obtain ⟨hc, rfl⟩ := ite1 hr
        rw [Bool.and_eq_true] at hc
        obtain ⟨q1, q2, q3, q4⟩ := slot_ok h2
        exact s_ins hT q1 q2 q3 q4 (not_false h5) (not_false h6) h7 hc.1 (not_false hc.2) (sdE _ X hT pk h3 fl H0).1 (sdE _ X hT pe h4 fl H0).1
  | .put i k e, st, h, fl, r, hr => by
    rw [chkS] at h
    cases e0 : vAsg st with
    | none => rw [e0] at h; cases h
    | some q =>
      rw [e0] at h
      obtain ⟨t, pe, pos, rfl, rfl⟩ := vAsg_eq e0
      clear e0
      cases e1 : vSub t with
      | none => simp only [e1] at h; cases h
      | some q1 =>
        obtain ⟨x, p, pk, ps, rfl, rfl⟩ := vSub_eq e1
        simp only [e1, Bool.and_eq_true] at h
        obtain ⟨⟨⟨⟨h2, h3⟩, h4⟩, h5⟩, h6⟩ := h
        simp only [flS] at hr
        obtain ⟨hc, rfl⟩ := ite1 hr
        rw [Bool.and_eq_true] at hc
        obtain ⟨q1, q2, q3, q4⟩ := slot_ok h2
        exact s_put hT q1 q2 q3 q4 (not_false h5) (not_false h6) hc.1 (not_false hc.2) (sdE _ X hT pk h3 fl H0).1 (sdE _ X hT pe h4 fl H0).1
  | .put2 i k k' e e', st, h, fl, r, hr => by
    rw [chkS] at h
    cases e0 : vAsg st with
    | none => rw [e0] at h; cases h
    | some q =>
      rw [e0] at h
      obtain ⟨t, v, pos, rfl, rfl⟩ := vAsg_eq e0
      clear e0
      cases e1 : vTup t with
      | none => simp only [e1] at h; cases h
      | some q1 =>
        cases e2 : vTup v with
        | none => simp only [e1, e2] at h; cases h
        | some q2 =>
          obtain ⟨ts, kt, p5, rfl, rfl⟩ := vTup_eq e1
          obtain ⟨vs, kv, p6, rfl, rfl⟩ := vTup_eq e2
          simp only [e1, e2] at h
          cases e3 : two? ts with
          | none => simp only [e3] at h; cases h
          | some q3 => cases e4 : two? vs with
            | none => simp only [e3, e4] at h; cases h
            | some q4 =>
              obtain ⟨t1, t2⟩ := q3
              obtain ⟨pe, pe'⟩ := q4
              simp only [e3, e4] at h
              have h3 := two_eq e3
              have h4 := two_eq e4
              subst h3 h4
              cases e5 : vSub t1 with
              | none => simp only [e5] at h; cases h
              | some q5 => cases e6 : vSub t2 with
                | none => simp only [e5, e6] at h; cases h
                | some q6 =>
                  obtain ⟨x, p1, pk, p2, rfl, rfl⟩ := vSub_eq e5
                  obtain ⟨y, p3, pk', p4, rfl, rfl⟩ := vSub_eq e6
                  simp only [e5, e6, Bool.and_eq_true, decide_eq_true_eq] at h
                  obtain ⟨⟨⟨⟨⟨⟨⟨⟨⟨h1, h2⟩, h3⟩, h4⟩, h5⟩, h6⟩, h7⟩, h8⟩, h9⟩, h10⟩ := h
                  subst h2
                  simp only [flS] at hr
                  obtain ⟨hc, rfl⟩ := ite1 hr
                  obtain ⟨q1, q2, q3, q4⟩ := slot_ok h1
                  exact s_put2 hT q1 q2 q3 q4 (not_false h7) (not_false h8) (not_false h9) (not_false h10) hc (sdE _ X hT pk h3 fl H0).1 (sdE _ X hT pk' h4 _ H0).1 (sdE _ X hT pe h5 fl H0).1 (sdE _ X hT pe' h6 fl H0).1
  | .rob m c o, st, h, fl, r, hr => by simp [flS] at hr
  | .iff c a b, st, h, fl, r, hr => by
    rw [chkS] at h
    cases e0 : vIf st with
    | none => rw [e0] at h; cases h
    | some q =>
      rw [e0] at h
      obtain ⟨pc, pa, pb, pos, rfl, rfl⟩ := vIf_eq e0
      clear e0
      simp only [Bool.and_eq_true] at h
      obtain ⟨⟨⟨h1, h2⟩, h3⟩, h4⟩ := h
      simp only [flS] at hr
      cases hx : flSs n a fl with
      | none => rw [hx] at hr; cases hr
      | some x => cases hy : flSs n b fl with
        | none => rw [hx, hy] at hr; cases hr
        | some y =>
          rw [hx, hy] at hr
          cases hr
          exact s_iff hx hy ((sdE c X hT pc h2 fl H0).2.1 h1) (sdSs hT hX a pa h3 fl x hx) (sdSs hT hX b pb h4 fl y hy)
  | .for_ tg it b, st, h, fl, r, hr => by
    rw [chkS] at h
    cases e0 : vFor st with
    | none => rw [e0] at h; cases h
    | some q =>
      rw [e0] at h
      obtain ⟨ptg, pit, pb, pos, rfl, rfl⟩ := vFor_eq e0
      clear e0
      simp only [Bool.and_eq_true] at h
      obtain ⟨⟨h1, h2⟩, h3⟩ := h
      simp only [flS] at hr
      obtain ⟨f, hf, rfl⟩ := map1 hr
      obtain ⟨gi, gs⟩ := sdI it X hT ptg pit h1 fl H0
      have hq : ∃ r, flSs n b (flSetT f tg false (ati fl it).nw) = some r := by
        rcases (fix3_ok hf).2 with z | ⟨g, z, _⟩
        · exact ⟨_, z⟩
        · exact ⟨_, z⟩
      obtain ⟨r, hq⟩ := hq
      exact s_for hT hX hf hq gi gs h2 (sdSs hT hX b pb h3 _ r hq)
  | .asgF i e, st, h, fl, r, hr => by
    rw [chkS] at h
    cases e0 : vAsg st with
    | none => rw [e0] at h; cases h
    | some q =>
      rw [e0] at h
      obtain ⟨t, pe, pos, rfl, rfl⟩ := vAsg_eq e0
      clear e0
      simp only [Bool.and_eq_true] at h
      obtain ⟨x, px, rfl⟩ := nm_name h.1
      simp only [flS] at hr
      obtain ⟨hc, rfl⟩ := ite1 hr
      exact s_asgF hT hX h.1 h.2 hc
  | .fro tg i b, st, h, fl, r, hr => by
    rw [chkS] at h
    cases e0 : vFor st with
    | none => rw [e0] at h; cases h
    | some q =>
      rw [e0] at h
      obtain ⟨ptg, pit, pb, pos, rfl, rfl⟩ := vFor_eq e0
      clear e0
      cases e1 : vName pit with
      | none => simp only [e1] at h; cases h
      | some q1 =>
        obtain ⟨z, pz, rfl, rfl⟩ := vName_eq e1
        simp only [e1, Bool.and_eq_true] at h
        simp only [flS] at hr
        obtain ⟨hc, rfl⟩ := ite1 hr
        simp only [Bool.and_eq_true] at hc
        have hv : chki nm X.N X.env.scope (.seq (.var i)) ptg (.Name z pz) = true := by
          have h1 := h.1.1
          unfold slotC at h1
          simp only [chki, chk, isSet, Bool.not_false, Bool.and_true]
          exact h1
        obtain ⟨gi, gs⟩ := sdI (.seq (.var i)) X hT ptg (.Name z pz) hv fl H0
        exact s_fro hT hX gi gs h.1.2 fun H1 σ0 env0 => sdRs hT hX b pb h.2 hc.1.1.2 fun j hj => hj
  | .lck i s, st, h, fl, r, hr => by
    rw [chkS] at h
    simp only [flS] at hr
    split at hr
    · rename_i hc
      rw [Bool.and_eq_true] at hc
      split at hr
      · rename_i g hg
        cases hr
        exact s_lck hc.1 hc.2 (sdS hT hX s st h _ _ hg)
      · cases hr
    · cases hr
  | .whl c b, st, h, fl, r, hr => by
    rw [chkS] at h
    cases e0 : vWhl st with
    | none => rw [e0] at h; cases h
    | some q =>
      rw [e0] at h
      obtain ⟨pc, pb, pos, rfl, rfl⟩ := vWhl_eq e0
      clear e0
      simp only [Bool.and_eq_true] at h
      obtain ⟨⟨h1, h2⟩, h3⟩ := h
      simp only [flS] at hr
      obtain ⟨f, hf, rfl⟩ := map1 hr
      have hq : ∃ r, flSs n b f = some r := by
        rcases (fix3_ok hf).2 with z | ⟨g, z, _⟩
        · exact ⟨_, z⟩
        · exact ⟨_, z⟩
      obtain ⟨r, hq⟩ := hq
      exact s_whl hT hX hf hq ((sdE c X hT pc h2 f H0).2.1 h1) (sdSs hT hX b pb h3 _ r hq)
  | .ret m x, st, h, fl, r, hr => by
    rw [chkS] at h
    cases e0 : vRet st with
    | none => rw [e0] at h; cases h
    | some q =>
      rw [e0] at h
      obtain ⟨pe, pos, rfl, rfl⟩ := vRet_eq e0
      clear e0
      simp only [flS] at hr
      obtain ⟨hc, rfl⟩ := ite1 hr
      by_cases ho : m = 1 ∧ (atx fl x).fr = false
      · obtain ⟨rfl, ho⟩ := ho
        rw [if_neg (by decide), if_pos rfl, ho, Bool.false_or] at hc
        match x, hc, h with
        | .pure (.var i), hc, h =>
          cases pe with
          | Name y p =>
            simp only [chkx, chk, Bool.and_eq_true, decide_eq_true_eq] at h
            obtain ⟨n1, n2, _⟩ := name_ok h.2
            exact s_retv hc (pe_var h.1.1 (vis_ok h.1.2) n1 n2)
          | _ => cases h
      · refine s_ret ?_ (sdX hT hX x pe h fl)
        by_cases h0 : m = 0
        · rw [if_pos h0] at hc ⊢; exact hc
        · rw [if_neg h0] at hc ⊢
          by_cases h1 : m = 1
          · rw [if_pos h1] at hc ⊢
            cases hq : (atx fl x).fr with
            | true => rfl
            | false => exact absurd ⟨h1, hq⟩ ho
          · rw [if_neg h1]
  | .exp x, st, h, fl, r, hr => by
    rw [chkS] at h
    cases e0 : vExp st with
    | none => rw [e0] at h; cases h
    | some q =>
      rw [e0] at h
      obtain ⟨pe, pos, rfl, rfl⟩ := vExp_eq e0
      clear e0
      simp only [Bool.and_eq_true] at h
      simp only [flS] at hr
      cases hr
      exact s_exp (not_false h.2) (sdX hT hX x pe h.1 fl)
  | .rse c, st, h, fl, r, hr => by
    rw [chkS] at h
    cases e0 : vRse st with
    | none => rw [e0] at h; cases h
    | some q =>
      rw [e0] at h
      obtain ⟨x, p, m, j, p2, p3, pos, rfl, rfl⟩ := vRse_eq e0
      clear e0
      simp only [Bool.and_eq_true, decide_eq_true_eq] at h
      simp only [flS] at hr
      cases hr
      exact s_rse hT hX h.1.1.1.1 h.1.1.1.2 h.2 (gl_ok h.1.1.2) (name_ok h.1.2).1
theorem sdSs (hT : Tb X CL nm gv Φ) (hX : Tx X CL nm Ew) : ∀ (s : SL) (st : List Stmt), chkSs nm X.N X.env.scope s st = true → ∀ (fl : Fl) (r : Option Fl), flSs n s fl = some r → PSs X st (RS X.K CL Ew n fl r H0 (execs gv Φ W s))
  | .nil, st, h, fl, r, hr => by
    cases st with
    | nil =>
      simp only [flSs] at hr
      cases hr
      exact ss_nil
    | cons _ _ => cases h
  | .cons s r', st, h, fl, r, hr => by
    cases st with
    | nil => cases h
    | cons st rest =>
      simp only [chkSs, Bool.and_eq_true] at h
      simp only [flSs] at hr
      cases hq : flS n s fl with
      | none => rw [hq] at hr; cases hr
      | some x => cases x with
        | none =>
          rw [hq] at hr
          cases hr
          exact ss_end hq (sdS hT hX s st h.1 fl none hq)
        | some g =>
          rw [hq] at hr
          exact ss_cons (sdS hT hX s st h.1 fl (some g) hq) (sdSs hT hX r' rest h.2 g r hr)
end
end
end Sb
namespace Sb
open PySem L2
open Evl (Ex Ex.refl Ex.trans Ex.new)
/-- one def: its number, name, place, long name, statement, names by slot, parameters, text -/
structure FD where
  f : Nat
  name : Str
  at_ : Str × Option Str
  qual : Str
  st : Stmt
  N : List Str
  ps : List Str
  d : Df
/-- one class: its number, name, its one field with how it is set (copied to a list, or as it is) and its __init__ (statement, self's name, the other's) -/
structure CD where
  c : Nat
  name : Str
  ini : Option (Str × Bool × Stmt × Str × Str)
def argS (a : Arg) : Bool := match a.annotation with
  | none => true
  | some _ => false
def argsB (a : Arguments) (ps : List Str) : Bool := a.posonlyargs.isEmpty && a.vararg.isNone && a.kwonlyargs.isEmpty && a.kw_defaults.isEmpty && a.kwarg.isNone && a.defaults.isEmpty && decide (a.args.map (·.arg) = ps) && decide (0 ≤ ps.length) && decide (ps.length ≤ 6) && decide (ps.Nodup)
def scopeB (N ps : List Str) (sc : Scope) : Bool := decide (sc.kind = .function) && !sc.isCoroutine && !sc.isGenerator && decide (N.Nodup) && decide (N.take ps.length = ps) && ps.all (fun x => decide (sc.names.lookup x = some .local ∨ sc.names.lookup x = some .cell)) && sc.names.all (fun y => decide (y.2 ≠ .free))
theorem scope_ok {N ps : List Str} {sc : Scope} (h : scopeB N ps sc = true) : FnScope N ps sc := by
  unfold scopeB at h
  simp only [Bool.and_eq_true, decide_eq_true_eq, List.all_eq_true] at h
  obtain ⟨⟨⟨⟨⟨⟨h1, h2⟩, h3⟩, h4⟩, h5⟩, h6⟩, h7⟩ := h
  exact ⟨h1, not_false h2, not_false h3, h4, h5, fun x hx => h6 x hx, fun y hy => h7 y hy⟩
theorem seqNone : seqItems? Value.none = pure none := rfl
theorem lk_zip : ∀ {ps : List Str} {us : List Value}, us.length = ps.length → ps.Nodup → (ps.filterMap fun n => ((ps.zip us).lookup n).map (n, ·)) = ps.zip us := by
  have key : ∀ (ps : List Str) (us : List Value) (pre : List (Str × Value)), us.length = ps.length → ps.Nodup → (∀ p ∈ pre, p.1 ∉ ps) → (ps.filterMap fun n => ((pre ++ ps.zip us).lookup n).map (n, ·)) = ps.zip us := by
    intro ps
    induction ps with
    | nil => intro us pre _ _ _; rfl
    | cons p ps ih =>
      intro us pre hl hn hp
      cases us with
      | nil => cases hl
      | cons u us =>
        have hl0 : ∀ (pre : List (Str × Value)), (∀ q ∈ pre, q.1 ∉ p :: ps) → (pre ++ (p, u) :: ps.zip us).lookup p = some u := by
          intro pre
          induction pre with
          | nil => intro _; simp [List.lookup]
          | cons q pre ih2 =>
            intro h
            have h1 : q.1 ≠ p := fun z => h q List.mem_cons_self (by rw [z]; exact List.mem_cons_self)
            have h2 : (p == q.1) = false := by simpa using fun z : p = q.1 => h1 z.symm
            rw [List.cons_append, List.lookup_cons, h2]
            exact ih2 fun r hr => h r (List.mem_cons_of_mem _ hr)
        rw [List.zip_cons_cons, List.filterMap_cons, hl0 pre hp]
        simp only [Option.map_some]
        congr 1
        have := ih us (pre ++ [(p, u)]) (by simpa using hl) (List.nodup_cons.mp hn).2 (fun q hq => by
          rcases List.mem_append.mp hq with hq | hq
          · exact fun z => hp q hq (List.mem_cons_of_mem _ z)
          · rw [List.mem_singleton] at hq; subst hq; exact (List.nodup_cons.mp hn).1)
        simpa [List.append_assoc] using this
  intro ps us hl hn
  exact key ps us [] hl hn (fun _ h => by cases h)
theorem lk_some {ps : List Str} {us : List Value} (hl : us.length = ps.length) {x : Str} (hx : x ∈ ps) : ((ps.zip us).lookup x).isNone = false := by
  induction ps generalizing us with
  | nil => cases hx
  | cons p ps ih =>
    cases us with
    | nil => cases hl
    | cons u us =>
      rw [List.zip_cons_cons, List.lookup_cons]
      cases e : x == p with
      | true => rfl
      | false =>
        have h1 : x ≠ p := by simpa using e
        exact ih (by simpa using hl) ((List.mem_cons.mp hx).resolve_left h1)
theorem bind_as {x qual : Str} {as : List Arg} {body : List Stmt} {sc : Scope} (hn : (as.map (·.arg)).Nodup) (kV doc pm : Value) (an : Option Addr) (cdv ct : Value) (us : List Value) (hl : us.length = (as.map (·.arg)).length) :
    bindArgs (PySem.W.fnOf x qual ⟨[], as, none, [], [], none, []⟩ body sc .none kV doc pm an cdv ct) ⟨us, []⟩ = pure ((as.map (·.arg)).zip us) := by
  unfold bindArgs PySem.W.fnOf
  have hf : ((as.map (·.arg)).filter fun n => ((((as.map (·.arg)).zip us).lookup n).isNone)) = [] := by
    rw [List.filter_eq_nil_iff]
    intro a ha
    rw [lk_some hl ha]; exact Bool.false_ne_true
  have hz := lk_zip hl hn
  have hg : (decide (us.length > (as.map (·.arg)).length) && true) = false := by rw [hl]; simp
  simp only [List.map_nil, List.nil_append, List.append_nil, seqNone]
  simp only [pure_bind, Option.getD_none, List.forIn_nil]
  simp [hl, hf, hz]
  simp only [List.drop_nil, List.length_nil, Nat.sub_zero, List.take_length, hf]
  rw [if_neg (by simp), ← List.filterMap_map, hz]
theorem bind_ok {x qual : Str} {a : Arguments} {body : List Stmt} {sc : Scope} {ps : List Str} (h : argsB a ps = true) (kV doc pm : Value) (an : Option Addr) (cdv ct : Value) (us : List Value) (hl : us.length = ps.length) :
    bindArgs (PySem.W.fnOf x qual a body sc .none kV doc pm an cdv ct) ⟨us, []⟩ = pure (ps.zip us) := by
  obtain ⟨po, as, va, ko, kd, kw, df⟩ := a
  unfold argsB at h
  simp only [Bool.and_eq_true, decide_eq_true_eq] at h
  obtain ⟨⟨⟨⟨⟨⟨⟨⟨⟨h1, h2⟩, h3⟩, h4⟩, h5⟩, h6⟩, h7⟩, h8⟩, h9⟩, h10⟩ := h
  cases po with
  | cons _ _ => cases h1
  | nil => cases va with
    | some _ => cases h2
    | none => cases ko with
      | cons _ _ => cases h3
      | nil => cases kd with
        | cons _ _ => cases h4
        | nil => cases kw with
          | some _ => cases h5
          | none => cases df with
            | cons _ _ => cases h6
            | nil =>
              subst h7
              exact bind_as h10 kV doc pm an cdv ct us hl
def iniE0 (l : Bool) : E := if l then .blt .list (.cons (.var 0) .nil) else .var 0
def iniE1 (l : Bool) : E := if l then .blt .list (.cons (.var 1) .nil) else .var 1
/-- what a class's making computes -/
def CD.df (e : CD) : Df := match e.ini with
  | none => ⟨0, 0, .cons (.rob 0 e.c .no) .nil⟩
  | some (_, l, _) => ⟨1, 1, .cons (.rob (if l then 1 else 2) e.c (.so (iniE0 l))) .nil⟩
def vIni : List Stmt → Option (Str × Pos × Str × Pos × Expr × Pos)
  | [.Assign [.Attribute (.Name a b) c d] e f] => some (a, b, c, d, e, f)
  | _ => none
theorem vIni_eq {st : List Stmt} {q : Str × Pos × Str × Pos × Expr × Pos} (h : vIni st = some q) : ∃ a b c d e f, q = (a, b, c, d, e, f) ∧ st = [.Assign [.Attribute (.Name a b) c d] e f] := by
  unfold vIni at h
  split at h
  · cases h; exact ⟨_, _, _, _, _, _, rfl, rfl⟩
  · cases h
def iniQ (name : Str) : Str := name ++ ".__init__"
def CD.dd (e : CD) : Option He.DefD := e.ini.map fun q => ⟨(e.name, some "__init__"), "__init__", iniQ e.name, defArgs q.2.2.1, defBody q.2.2.1, defScope q.2.2.1, [], []⟩
def CD.ok (nm : Nm) (e : CD) : Bool := decide (nm.cl e.c = e.name) && (match e.ini with
  | none => decide (nm.fl e.c = "")
  | some (f, l, st, sf, x) => decide (nm.fl e.c = f) && decide (f ≠ "") && scopeB [sf, x] [sf, x] (defScope st) && argsB (defArgs st) [sf, x] && (match vIni (defBody st) with
    | some (a, _, g, _, pe, _) => decide (a = sf) && decide (g = f) && chk nm [sf, x] (defScope st) (iniE1 l) pe && visB (defScope st) sf && okName sf && !isCompr pe
    | none => false))
def insB (K : PySem.W.Frag) (x : Str) : Bool := (He.Fa.glo x).ok K && (He.Fa.cls x).ok K && decide (PySem.W.findIn K (.ref (He.ga K x)) "__class__" = some (some (.builtin "object.__class__"))) &&
  decide (PySem.W.specialIn K (.builtin "object.__class__") "__get__" = some (some (.builtin "getset_descriptor.__get__"))) && decide (PySem.W.takesIn K (.builtin "object.__class__") = some true) && decide (PySem.W.mroIn K (He.ga K x) (.type "object") = some true)
def CD.fact (K : PySem.W.Frag) (e : CD) : Bool := insB K e.name && (match e.ini with
  | none => PySem.W.makesIn K (He.ga K e.name) && decide (PySem.W.findIn K (.ref (He.ga K e.name)) "__init__" = some (some (.builtin "object.__init__"))) && PySem.W.keepIn K (.ref (He.ga K e.name))
  | some (f, _) => (He.Fa.noat e.name f).ok K && (He.Fa.mkr e.name).ok K)
def FD.ok (nm : Nm) (e : FD) : Bool := (match e.at_.2 with
    | none => decide (nm.fn e.f = e.name) && decide (e.f < 10000) && decide (e.at_.1 = e.name)
    | some m => decide (m = "shows") && decide (20000 ≤ e.f) && decide (nm.cl (e.f - 20000) = e.at_.1) && decide (nm.cl (e.f - 20000) ≠ "") && decide (nm.fl (e.f - 20000) ≠ "shows")) &&
  chkSs nm e.N (defScope e.st) e.d.body (defBody e.st) && (flSs e.d.ns e.d.body ⟨[], [], []⟩).isSome && decide (e.N.length = e.d.ns) && decide (e.ps.length = e.d.np) && scopeB e.N e.ps (defScope e.st) && argsB (defArgs e.st) e.ps
def FD.dd (e : FD) : He.DefD := ⟨e.at_, e.name, e.qual, defArgs e.st, defBody e.st, defScope e.st, [], []⟩
/-- the text's tables: the defs, the whole numbers, the errors, the classes, who is whose -/
structure Tbl where
  nm : Nm
  fns : List FD
  gls : List (Nat × Str × Int)
  xcs : List (Nat × Str)
  cds : List CD
  kns : List (Nat × Nat × Bool)
def Tbl.D (t : Tbl) (f : Nat) : Option Df := if f < 10000 ∨ 20000 ≤ f then (t.fns.find? fun e => e.f == f).map (·.d) else (t.cds.find? fun e => 10000 + e.c == f).map CD.df
def Tbl.gv (t : Tbl) (g : Nat) : Option Int := (t.gls.find? fun e => e.1 == g).map (·.2.2)
def faM (e : FD) : He.Fa := match e.at_.2 with
  | none => .glo e.name
  | some m => .meth e.at_.1 m
def Tbl.fa (t : Tbl) : List He.Fa := bNames.map .free ++ (t.gls.map (fun e => .int e.2.1 e.2.2) ++ (t.fns.map faM ++ (t.xcs.map (fun e => .glo e.2) ++ t.xcs.map fun e => .exc e.2)))
def Tbl.fn (t : Tbl) : List He.DefD := t.fns.map FD.dd ++ t.cds.filterMap CD.dd
def Tbl.ex (t : Tbl) (K : PySem.W.Frag) : Bool := t.cds.all (fun e => e.fact K) && t.kns.all (fun e => insB K (t.nm.cl e.2.1) && (He.Fa.glo (t.nm.cl e.1)).ok K && decide (PySem.W.kitOne K (.ref (He.ga K (t.nm.cl e.2.1))) (.ref (He.ga K (t.nm.cl e.1))) = some e.2.2)) &&
  t.fns.all (fun e => match e.at_.2 with
    | none => true
    | some _ => (He.Fa.cls e.at_.1).ok K)
def Tbl.ok (t : Tbl) : Bool := t.fns.all (fun e => e.ok t.nm) && t.gls.all (fun e => decide (t.nm.gl e.1 = e.2.1)) && t.xcs.all (fun e => decide (t.nm.cl e.1 = e.2)) && t.cds.all (fun e => e.ok t.nm)
/-- every error's name stands in the table -/
def Tbl.xok (t : Tbl) : Prop := (∀ c, c < 20 → t.nm.cl c ≠ "" → (c, t.nm.cl c) ∈ t.xcs) ∧ (∀ c d b, t.nm.kin c d = some b → (c, d, b) ∈ t.kns) ∧ (∀ c, t.nm.fl c ≠ "" → ∃ e ∈ t.cds, e.c = c)
def clOf (K : PySem.W.Frag) (t : Tbl) : Nat → Addr × List Str := fun c => (He.ga K (t.nm.cl c), if t.nm.fl c = "" then [] else [t.nm.fl c])
theorem Says.fact {fa : List He.Fa} {fn : List He.DefD} {K : PySem.W.Frag} (c : He.SaysD fa fn K) {f : He.Fa} (h : f ∈ fa) : f.ok K = true := by
  obtain ⟨i, hi⟩ := List.mem_iff_getElem?.mp h
  exact c.fact i hi
theorem Says.def_ {fa : List He.Fa} {fn : List He.DefD} {K : PySem.W.Frag} (c : He.SaysD fa fn K) {d : He.DefD} (h : d ∈ fn) : ∃ fd, FunD K d.name d.qual d.params d.body d.scope (d.dvs K) (d.kws K) (He.fAd K d.at_) fd := by
  obtain ⟨i, hi⟩ := List.mem_iff_getElem?.mp h
  exact c.def_ i hi
theorem insB_ok {K : PySem.W.Frag} {x : Str} (h : insB K x = true) : (He.Fa.glo x).ok K = true ∧ InsD K (He.ga K x) := by
  unfold insB at h
  simp only [Bool.and_eq_true, decide_eq_true_eq] at h
  obtain ⟨⟨⟨⟨⟨h1, h2⟩, h3⟩, h4⟩, h5⟩, h6⟩ := h
  exact ⟨h1, He.cls_ok h2, h3, h4, h5, h6⟩
section
variable {P : Program} {w : World} {K : PySem.W.Frag} {h base : Heap} {mg : Str → Option Value} {t : Tbl} {W : Nat}
theorem Tbl.find {t : Tbl} {f : Nat} {d : Df} (hf : f < 10000 ∨ 20000 ≤ f) (h : t.D f = some d) : ∃ e ∈ t.fns, e.f = f ∧ e.d = d := by
  unfold Tbl.D at h
  rw [if_pos hf] at h
  obtain ⟨e, h1, h2⟩ := map1 h
  exact ⟨e, List.mem_of_find?_eq_some h1, by have := List.find?_some h1; simpa using this, h2⟩
theorem Tbl.findC {t : Tbl} {c : Nat} {d : Df} (hc : c < 10000) (h : t.D (10000 + c) = some d) : ∃ e ∈ t.cds, e.c = c ∧ e.df = d := by
  unfold Tbl.D at h
  rw [if_neg (by omega)] at h
  obtain ⟨e, h1, h2⟩ := map1 h
  exact ⟨e, List.mem_of_find?_eq_some h1, by have := List.find?_some h1; simp at this; omega, h2⟩
/-- a def of the table, as it stands behind the top -/
theorem tab_def (c : He.SaysD t.fa t.fn K) (ht : t.ok = true) {e : FD} (he : e ∈ t.fns) :
    ∃ fd, FunD K e.name e.qual (defArgs e.st) (defBody e.st) (defScope e.st) [] [] (He.fAd K e.at_) fd ∧ Binds K fd e.ps [] ∧ e.ok t.nm = true := by
  unfold Tbl.ok at ht
  simp only [Bool.and_eq_true, List.all_eq_true] at ht
  have ho := ht.1.1.1 e he
  obtain ⟨fd, F⟩ := Says.def_ c (d := e.dd) (List.mem_append_left _ (List.mem_map_of_mem he))
  have F' : FunD K e.name e.qual (defArgs e.st) (defBody e.st) (defScope e.st) [] [] (He.fAd K e.at_) fd := F
  have ho' := ho
  unfold FD.ok at ho'
  simp only [Bool.and_eq_true, decide_eq_true_eq] at ho'
  exact ⟨fd, F', F'.bindsN fun kV doc pm an cdv ct us hl => bind_ok ho'.2 kV doc pm an cdv ct us hl, ho⟩
theorem tab_glo (X : K.In h) (G : h.Ns mainGlobals mg) (c : He.SaysD t.fa t.fn K) (ht : t.ok = true) {e : FD} (he : e ∈ t.fns) (ha : e.at_.2 = none) : mg (t.nm.fn e.f) = some (.ref (He.fAd K e.at_)) ∧ e.f < 10000 := by
  obtain ⟨_, _, _, ho⟩ := tab_def c ht he
  unfold FD.ok at ho
  rw [ha] at ho
  simp only [Bool.and_eq_true, decide_eq_true_eq] at ho
  have hg := He.glo_ok X G (Says.fact c (f := .glo e.name) (by
    unfold Tbl.fa
    refine List.mem_append_right _ (List.mem_append_right _ (List.mem_append_left _ ?_))
    have := List.mem_map_of_mem (f := faM) he
    unfold faM at this
    rw [ha] at this
    exact this))
  obtain ⟨⟨⟨⟨⟨⟨⟨⟨g1, g2⟩, g3⟩, _⟩, _⟩, _⟩, _⟩, _⟩, _⟩ := ho
  refine ⟨?_, g2⟩
  rw [g1, hg]
  unfold He.fAd
  rw [ha, g3]
theorem tab_meth (X : K.In h) (G : h.Ns mainGlobals mg) (c : He.SaysD t.fa t.fn K) (hex : t.ex K = true) (ht : t.ok = true) {e : FD} (he : e ∈ t.fns) {cc : Nat} (hf : e.f = 20000 + cc) : Cls K (clOf K t cc).1 ∧ Meth K (clOf K t cc).1 "shows" (He.fAd K e.at_) ∧ ("shows" : Str) ∉ (clOf K t cc).2 := by
  obtain ⟨_, _, _, ho⟩ := tab_def c ht he
  unfold FD.ok at ho
  have hcc : e.f - 20000 = cc := by omega
  rw [hcc] at ho
  cases ha : e.at_.2 with
  | none =>
    rw [ha] at ho
    simp only [Bool.and_eq_true, decide_eq_true_eq] at ho
    obtain ⟨⟨⟨⟨⟨⟨⟨⟨g1, g2⟩, g3⟩, _⟩, _⟩, _⟩, _⟩, _⟩, _⟩ := ho
    omega
  | some m =>
    rw [ha] at ho
    simp only [Bool.and_eq_true, decide_eq_true_eq] at ho
    obtain ⟨⟨⟨⟨⟨⟨⟨⟨⟨⟨g1, g2⟩, g3⟩, g4⟩, g5⟩, _⟩, _⟩, _⟩, _⟩, _⟩, _⟩ := ho
    subst g1
    have hm := He.meth_ok (Says.fact c (f := .meth e.at_.1 "shows") (by
      unfold Tbl.fa
      refine List.mem_append_right _ (List.mem_append_right _ (List.mem_append_left _ ?_))
      have := List.mem_map_of_mem (f := faM) he
      unfold faM at this
      rw [ha] at this
      exact this))
    unfold Tbl.ex at hex
    simp only [Bool.and_eq_true, List.all_eq_true] at hex
    have hc := hex.2 e he
    rw [ha] at hc
    have e1 : (clOf K t cc).1 = He.ga K e.at_.1 := by show He.ga K (t.nm.cl cc) = _; rw [g3]
    have e2 : He.fAd K e.at_ = He.ma K (He.ga K e.at_.1) "shows" := by unfold He.fAd; rw [ha]
    rw [e1, e2]
    refine ⟨He.cls_ok hc, hm, ?_⟩
    show ("shows" : Str) ∉ (if t.nm.fl cc = "" then [] else [t.nm.fl cc])
    split
    · simp
    · rw [List.mem_singleton]; exact fun z => g5 z.symm
/-- what stands at a level -/
structure Lv (P : Program) (w : World) (K : PySem.W.Frag) (base : Heap) (mg : Str → Option Value) (t : Tbl) (k : Nat) (Φ : Nat → List T → Option R) : Prop where
  mkc : ∀ c ts r, c < 100 → Φ (10000 + c) ts = some r → mg (t.nm.cl c) = some (.ref (clOf K t c).1) ∧
    ((∃ k' f fd ps u, k = k' + 1 ∧ r = .val (.obj c [u]) ∧ (clOf K t c).2 = [t.nm.fl c] ∧ Mk K (clOf K t c).1 f ∧ Binds K fd ps [] ∧ ts ≠ [] ∧ FnOk P w K mg base (L2.CX P w) k' f fd ps (spI K (clOf K t) c (t.nm.fl c) (Φ (10000 + c)))) ∨
      (ts = [] ∧ r = .val (.obj c []) ∧ Mk0 K (clOf K t c).1 ∧ (clOf K t c).2 = []))
  mt : ∀ c us ts r, Φ (20000 + c) (.obj c us :: ts) = some r → ∃ f fd ps, Cls K (clOf K t c).1 ∧ Meth K (clOf K t c).1 "shows" f ∧ ("shows" : Str) ∉ (clOf K t c).2 ∧ Binds K fd ps [] ∧ FnOk P w K mg base (L2.CX P w) k f fd ps (spF K (clOf K t) (Φ (20000 + c)))
  fn : ∀ f ts r, f < 10000 → Φ f ts = some r → ∃ fa fd ps, mg (t.nm.fn f) = some (.ref fa) ∧ PySem.W.keepIn K (.ref fa) = true ∧ Binds K fd ps [] ∧ FnOk P w K mg base (L2.CX P w) k fa fd ps (spF K (clOf K t) (Φ f))
/-- the context of a body -/
theorem tb_of {N ps : List Str} {qual : Str} {sc : Scope} {f : Addr} {cdv : Value} {A : Around} {outer : List PySem.Env} {s : Shared} {H : Hp} {E : XK} {k : Nat} {Φ : Nat → List T → Option R} (X : K.In h) (G : h.Ns mainGlobals mg) (c : He.SaysD t.fa t.fn K) (hex : t.ex K = true) (ht : t.ok = true) (hx : t.xok) (S : FnScope N ps sc)
    (hroom : Room k (A.deeper (PyProof.Rows.envOfC qual sc s.heap.objs.size f cdv))) (L : Lv P w K base mg t k Φ) : Tb (cxOf (L2.CX P w) P w K mg base N qual sc f cdv A outer s H E) (clOf K t) t.nm t.gv Φ := by
  have ht' := ht
  unfold Tbl.ok at ht'
  simp only [Bool.and_eq_true, List.all_eq_true, decide_eq_true_eq] at ht'
  have hex' := hex
  unfold Tbl.ex at hex'
  simp only [Bool.and_eq_true, List.all_eq_true, decide_eq_true_eq] at hex'
  refine ⟨rfl, S.nd, ?_, ?_, ?_, ?_, ?_, ?_, ?_, ?_⟩
  · have := hroom.un
    show (A.deeper _).units + 65 < cLine
    omega
  · intro x hx
    exact He.free_ok X G (Says.fact c (f := .free x) (by unfold Tbl.fa; exact List.mem_append_left _ (List.mem_map_of_mem hx)))
  · intro g i hg
    unfold Tbl.gv at hg
    obtain ⟨q, q1, q2⟩ := map1 hg
    have hm := List.mem_of_find?_eq_some q1
    have he2 : q.1 = g := by have := List.find?_some q1; simpa using this
    have hf := He.int_ok X G (Says.fact c (f := .int q.2.1 q.2.2) (by unfold Tbl.fa; exact List.mem_append_right _ (List.mem_append_left _ (List.mem_map_of_mem (f := fun e : Nat × Str × Int => He.Fa.int e.2.1 e.2.2) hm))))
    rw [← he2, ht'.1.1.2 q hm, ← q2]
    exact hf
  · intro cc d b hk
    have hm := hx.2.1 cc d b hk
    have := hex'.1.2 _ hm
    obtain ⟨⟨g1, g2⟩, g3⟩ := this
    exact ⟨(insB_ok g1).2, He.glo_ok X G g2, g3⟩
  · intro cc hne
    obtain ⟨e, he, rfl⟩ := hx.2.2 cc hne
    have ho := ht'.2 e he
    have hf := hex'.1.1 e he
    unfold CD.ok at ho
    unfold CD.fact at hf
    cases hi : e.ini with
    | none =>
      rw [hi] at ho
      simp only [Bool.and_eq_true, decide_eq_true_eq] at ho
      exact absurd ho.2 hne
    | some q =>
      obtain ⟨f0, l, st, sf, x⟩ := q
      rw [hi] at ho hf
      simp only [Bool.and_eq_true, decide_eq_true_eq] at ho hf
      have e1 : (clOf K t e.c).1 = He.ga K e.name := by show He.ga K (t.nm.cl e.c) = _; rw [ho.1]
      refine ⟨by rw [e1]; exact (insB_ok hf.1).2.cl, ?_, ?_⟩
      · rw [e1, ho.2.1.1.1.1]; exact He.noat_ok hf.2.1
      · show (if t.nm.fl e.c = "" then [] else [t.nm.fl e.c]) = _
        rw [if_neg hne]
  · intro cc ts r h100 hz
    obtain ⟨g1, g2⟩ := L.mkc cc ts r h100 hz
    refine ⟨g1, ?_⟩
    rcases g2 with ⟨k', f, fd, ps, u, rfl, a1, a2, a3, a4, a5, a6⟩ | g2
    · exact .inl ⟨k', f, fd, ps, u, a1, a2, a3, a4, hroom, a5, a6⟩
    · exact .inr g2
  · intro cc us ts r hz
    obtain ⟨f, fd, ps, a1, a2, a3, a4, a5⟩ := L.mt cc us ts r hz
    exact ⟨k, f, fd, ps, a1, a2, a3, a4, hroom, a5⟩
  · intro f ts' r2 hf hz
    obtain ⟨fa, fd', ps', g1, g2, g3, g4⟩ := L.fn f ts' r2 hf hz
    exact ⟨k, fa, fd', ps', g1, g2, g3, hroom, g4⟩
theorem fn_step (X : K.In h) (G : h.Ns mainGlobals mg) (c : He.SaysD t.fa t.fn K) (hex : t.ex K = true) (ht : t.ok = true) (hx : t.xok) (k : Nat) (Φ : Nat → List T → Option R) (L : Lv P w K base mg t k Φ)
    {e : FD} (he : e ∈ t.fns) {fd : FuncData} (F : FunD K e.name e.qual (defArgs e.st) (defBody e.st) (defScope e.st) [] [] (He.fAd K e.at_) fd) :
    FnOk P w K mg base (L2.CX P w) (k + 1) (He.fAd K e.at_) fd e.ps (spF K (clOf K t) (runD t.gv Φ W e.d)) := by
  obtain ⟨_, _, _, ho⟩ := tab_def c ht he
  unfold FD.ok at ho
  simp only [Bool.and_eq_true, decide_eq_true_eq] at ho
  obtain ⟨⟨⟨⟨⟨⟨h1, h2⟩, h3⟩, h4⟩, h5⟩, h6⟩, h7⟩ := ho
  have S := scope_ok h6
  obtain ⟨r, hr⟩ := Option.isSome_iff_exists.mp h3
  refine F.ok S (fun vs H Q E hsp => ?_) (fun cdv A outer s H vs Q E hroom hsp => ?_)
  · obtain ⟨ts, r', h8, h9, _⟩ := hsp
    rw [h8.len, h5]
    unfold runD at h9
    exact Classical.byContradiction fun z => by rw [if_neg z] at h9; cases h9
  · obtain ⟨ts, r', h8, h9, hq, hqx, hqw⟩ := hsp
    unfold runD at h9
    have hlen : ts.length = e.d.np := Classical.byContradiction fun z => by rw [if_neg z] at h9; cases h9
    rw [if_pos hlen] at h9
    obtain ⟨out, hout, hres⟩ := map1 h9
    have tb : Tb (cxOf (L2.CX P w) P w K mg base e.N e.qual (defScope e.st) (He.fAd K e.at_) cdv A outer s H E) (clOf K t) t.nm t.gv Φ := tb_of X G c hex ht hx S hroom L
    have tx : Tx (cxOf (L2.CX P w) P w K mg base e.N e.qual (defScope e.st) (He.fAd K e.at_) cdv A outer s H E) (clOf K t) t.nm E := by
      refine ⟨fun _ => rfl, S.kind, passes_of rfl, takes_of rfl rfl rfl rfl, ?_⟩
      intro cc x m j p p2 pos h20 hc hne hg hd
      have hm := hx.1 cc h20 (by rw [hc]; exact hne)
      have g1 := He.glo_ok X G (Says.fact c (f := .glo (t.nm.cl cc)) (by unfold Tbl.fa; exact List.mem_append_right _ (List.mem_append_right _ (List.mem_append_right _ (List.mem_append_left _ (List.mem_map_of_mem (f := fun e : Nat × Str => He.Fa.glo e.2) hm))))))
      obtain ⟨g2, g3, g4, g5⟩ := He.exc_ok (Says.fact c (f := .exc (t.nm.cl cc)) (by unfold Tbl.fa; exact List.mem_append_right _ (List.mem_append_right _ (List.mem_append_right _ (List.mem_append_right _ (List.mem_map_of_mem (f := fun e : Nat × Str => He.Fa.exc e.2) hm))))))
      subst hc
      exact pmk_own PySem.F.excBase_ValueError g2 g1 g3 (raises_own g4 g5) hg hd
    refine ⟨_, sdSs (n := e.d.ns) (W := W) (H0 := H) tb tx e.d.body (defBody e.st) h2 ⟨[], [], []⟩ r hr, ?_⟩
    have hl0 : (L2.start e.N vs).length = e.d.ns := by
      unfold L2.start
      rw [List.length_append, List.length_map, List.length_replicate, h8.len, hlen, ← h4]
      have : e.d.np ≤ e.N.length := by
        rw [← h5]
        have := congrArg List.length S.pre
        rw [List.length_take] at this
        omega
      omega
    have hle : (ts.map some ++ List.replicate (e.d.ns - e.d.np) none : Env).length = e.d.ns := by
      rw [← hl0]
      unfold L2.start
      rw [List.length_append, List.length_append, List.length_map, List.length_map, List.length_replicate, List.length_replicate, h8.len, hlen, h4]
      omega
    refine ⟨ts.map some ++ List.replicate (e.d.ns - e.d.np) none, fun _ _ => False, out, hle, ⟨by rw [hle]; exact hl0, Ex.refl H, (fun _ _ z => z.elim), (fun _ _ z => z.elim), (fun _ _ _ z => z.elim), (fun _ _ _ z => z.elim), fun i u hi => ?_, fun i t v z => by cases z⟩, hout, ?_⟩
    · have hi' : i < ts.length ∧ ts[i]? = some u := by
        by_cases hlt : i < ts.length
        · rw [List.getElem?_append_left (by simpa using hlt), List.getElem?_map] at hi
          refine ⟨hlt, ?_⟩
          cases q : ts[i]? with
          | none => rw [q] at hi; cases hi
          | some z => rw [q] at hi; cases hi; rfl
        · rw [List.getElem?_append_right (by simp; omega), List.getElem?_replicate] at hi
          split at hi <;> cases hi
      obtain ⟨v, g1, g2⟩ := h8.get hi'.2
      refine ⟨v, ?_, g2.mono fun b _ => ⟨fun _ z => z.elim, fun z => by cases z⟩, fun z => by cases z⟩
      unfold L2.start
      rw [List.getElem?_append_left (by rw [List.length_map, h8.len]; exact hi'.1), List.getElem?_map, g1]
      rfl
    · refine ⟨fun env' z => ?_, fun u z v H' e' r' => ?_, fun cc z H' e' => ?_, fun u z v H' S e' r' => ?_⟩
      · subst z
        cases r with
        | none => exact (fls_nx e.d.body hr hout).elim
        | some fl' => exact ⟨fl', rfl, fun σ' H' O' ok' st' => hq .non hres.symm .non H' ok'.ex rfl⟩
      · subst z
        exact hq u hres.symm v H' e' r'
      · subst z
        exact hqx cc hres.symm H' e'
      · subst z
        exact hqw u hres.symm v H' S e' r'
/-- an __init__ that sets the one field -/
theorem ini_step (X : K.In h) (G : h.Ns mainGlobals mg) (c : He.SaysD t.fa t.fn K) (hex : t.ex K = true) (ht : t.ok = true) (hx : t.xok) (k : Nat) (Φ : Nat → List T → Option R) {e : CD} (he : e ∈ t.cds) {f : Str} {l : Bool} {st : Stmt} {sf x : Str} (hi : e.ini = some (f, l, st, sf, x)) :
    ∃ fd, Mk K (clOf K t e.c).1 (He.fAd K (e.name, some "__init__")) ∧ Binds K fd [sf, x] [] ∧ FnOk P w K mg base (L2.CX P w) (k + 1) (He.fAd K (e.name, some "__init__")) fd [sf, x] (spI K (clOf K t) e.c (t.nm.fl e.c) (runD t.gv Φ W e.df)) := by
  have ht' := ht
  unfold Tbl.ok at ht'
  simp only [Bool.and_eq_true, List.all_eq_true, decide_eq_true_eq] at ht'
  have hex' := hex
  unfold Tbl.ex at hex'
  simp only [Bool.and_eq_true, List.all_eq_true, decide_eq_true_eq] at hex'
  have ho := ht'.2 e he
  have hf := hex'.1.1 e he
  unfold CD.ok at ho
  unfold CD.fact at hf
  rw [hi] at ho hf
  simp only [Bool.and_eq_true, decide_eq_true_eq] at ho hf
  obtain ⟨o1, ⟨⟨⟨o2, o3⟩, o4⟩, o5⟩, o6⟩ := ho
  have e1 : (clOf K t e.c).1 = He.ga K e.name := by show He.ga K (t.nm.cl e.c) = _; rw [o1]
  obtain ⟨fd, F⟩ := Says.def_ c (d := ⟨(e.name, some "__init__"), "__init__", iniQ e.name, defArgs st, defBody st, defScope st, [], []⟩) (List.mem_append_right _ (List.mem_filterMap.mpr ⟨e, he, by unfold CD.dd; rw [hi]; rfl⟩))
  have F' : FunD K "__init__" (iniQ e.name) (defArgs st) (defBody st) (defScope st) [] [] (He.fAd K (e.name, some "__init__")) fd := F
  have S := scope_ok o4
  refine ⟨fd, by rw [e1]; exact He.mkr_ok hf.2.2, F'.bindsN fun kV doc pm an cdv ct us hl => bind_ok o5 kV doc pm an cdv ct us hl, F'.ok S (fun vs H Q E hsp => ?_) (fun cdv A outer s H vs Q E hroom hsp => ?_)⟩
  · obtain ⟨a, dx, us, ts, u, rfl, _, _, h8, h9, _⟩ := hsp
    have hd : e.df = ⟨1, 1, .cons (.rob (if l then 1 else 2) e.c (.so (iniE0 l))) .nil⟩ := by unfold CD.df; rw [hi]
    rw [hd] at h9
    unfold runD at h9
    have hlen : ts.length = 1 := Classical.byContradiction fun z => by rw [if_neg z] at h9; cases h9
    rw [List.length_cons, h8.len, hlen]; rfl
  · obtain ⟨a, dx, us, ts, u, rfl, hn, hH, h8, h9, hq⟩ := hsp
    have hd : e.df = ⟨1, 1, .cons (.rob (if l then 1 else 2) e.c (.so (iniE0 l))) .nil⟩ := by unfold CD.df; rw [hi]
    rw [hd] at h9
    unfold runD at h9
    have hlen : ts.length = 1 := Classical.byContradiction fun z => by rw [if_neg z] at h9; cases h9
    rw [if_pos hlen] at h9
    match ts, hlen, h8, h9 with
    | [t0], _, h8, h9 =>
    obtain ⟨v0, rfl, r0⟩ := reps1 h8
    have tb : Tb (cxOf (L2.CX P w) P w K mg base [sf, x] (iniQ e.name) (defScope st) (He.fAd K (e.name, some "__init__")) cdv A outer s H E) (clOf K t) t.nm t.gv (fun _ _ => none) :=
      tb_of X G c hex ht hx S hroom ⟨(fun _ _ _ _ z => nomatch z), (fun _ _ _ _ z => nomatch z), (fun _ _ _ _ z => nomatch z)⟩
    cases hv : vIni (defBody st) with
    | none => rw [hv] at o6; cases o6
    | some q =>
      rw [hv] at o6
      obtain ⟨a', p1, g, p2, pe, p3, rfl, hb⟩ := vIni_eq hv
      simp only [Bool.and_eq_true, decide_eq_true_eq] at o6
      obtain ⟨⟨⟨⟨⟨g1, g2⟩, g3⟩, g4⟩, g5⟩, g6⟩ := o6
      subst g1 g2
      rw [hb]
      obtain ⟨n1, n2, _⟩ := name_ok g5
      have hpe := (sdE (iniE1 l) _ tb pe g3 ⟨[], [], []⟩ H).1
      refine ⟨_, pss_cons (ps_fld (pv_of (i := 0) rfl (vis_ok g4) n1 n2) hpe (comp_ok (not_false g6))) pss_nil, ?_⟩
      have hev : ∃ t1, ev t.gv (fun _ _ => none) (iniE1 l) [none, some t0] = some t1 ∧ u = t1 ∧ (if l then flat t1 else imm t1) = true := by
        obtain ⟨out, h10, h11⟩ := map1 h9
        cases l with
        | true =>
          simp only [execs, exec, iniE0, ev, evs, List.map_cons, List.map_nil, List.replicate, Nat.sub_self, List.append_nil, List.getElem?_cons_zero, Option.join_some, Option.bind_some, Option.map_some, if_true] at h10
          obtain ⟨o, h12, h13⟩ := bind1 h10
          obtain ⟨t1, h14, h15⟩ := bind1 h12
          obtain ⟨h16, rfl⟩ := ite1 h15
          cases h13
          cases h11
          exact ⟨_, h14, rfl, h16⟩
        | false =>
          simp only [execs, exec, iniE0, ev, evs, List.map_cons, List.map_nil, List.replicate, Nat.sub_self, List.append_nil, List.getElem?_cons_zero, Option.join_some, Option.bind_some, Option.map_some, if_false] at h10
          obtain ⟨o, h12, h13⟩ := bind1 h10
          obtain ⟨h16, rfl⟩ := ite1 h12
          cases h13
          cases h11
          exact ⟨_, rfl, rfl, h16⟩
      obtain ⟨t1, h10, rfl, h11⟩ := hev
      refine ⟨[none, some t0], fun _ _ => False, u, ⟨rfl, Ex.refl H, (fun _ _ z => z.elim), (fun _ _ z => z.elim), (fun _ _ _ z => z.elim), (fun _ _ _ z => z.elim), fun i u' hi' => ?_, fun i t v z => by cases z⟩, h10, fun v H' e' r' fr' => ?_⟩
      · match i, hi' with
        | 1, hi' =>
          cases hi'
          exact ⟨v0, rfl, r0.mono fun b _ => ⟨fun _ z => z.elim, fun z => by cases z⟩, fun z => by cases z⟩
      · have hH' : H' a = some (.ins (clOf K t e.c).1 dx []) := e' _ _ hH
        refine ⟨.ref a, rfl, a, (clOf K t e.c).1, dx, [], rfl, hH', by rw [e1]; exact (insB_ok hf.1).2.cl, by rw [e1]; exact He.noat_ok hf.2.1, by decide, ?_⟩
        have := hq v H' e' ?_
        · rw [o2] at this
          exact this
        · cases l with
          | true =>
            rw [if_pos rfl] at h11
            exact flat_fresh h11 (fun m => fr' rfl m) r'
          | false =>
            rw [if_neg (by decide)] at h11
            exact r'.imm h11
theorem phi_D {gv : Nat → Option Int} {D : Nat → Option Df} {k f : Nat} {ts : List T} {r : R} (z : Phi gv D W (k + 1) f ts = some r) : ∃ d, D f = some d ∧ Phi gv D W (k + 1) f = runD gv (Phi gv D W k) W d := by
  have z' : (D f).bind (fun d => runD gv (Phi gv D W k) W d ts) = some r := z
  cases q : D f with
  | none => rw [q] at z'; cases z'
  | some d =>
    refine ⟨d, rfl, ?_⟩
    funext ts
    show (D f).bind _ = _
    rw [q]; rfl
theorem lv_ok (X : K.In h) (G : h.Ns mainGlobals mg) (c : He.SaysD t.fa t.fn K) (hex : t.ex K = true) (ht : t.ok = true) (hx : t.xok) : ∀ k, Lv P w K base mg t (k + 1) (Phi t.gv t.D W k)
  | 0 => ⟨(fun _ _ _ _ z => nomatch z), (fun _ _ _ _ z => nomatch z), (fun _ _ _ _ z => nomatch z)⟩
  | k + 1 => by
    have ih := lv_ok X G c hex ht hx k
    refine ⟨fun cc ts r h100 z => ?_, fun cc us ts r z => ?_, fun f ts r hf z => ?_⟩
    · obtain ⟨d, hd, hp⟩ := phi_D z
      obtain ⟨e, he, rfl, rfl⟩ := Tbl.findC (by omega) hd
      have ht' := ht
      unfold Tbl.ok at ht'
      simp only [Bool.and_eq_true, List.all_eq_true, decide_eq_true_eq] at ht'
      have hex' := hex
      unfold Tbl.ex at hex'
      simp only [Bool.and_eq_true, List.all_eq_true, decide_eq_true_eq] at hex'
      have ho := ht'.2 e he
      have hf := hex'.1.1 e he
      unfold CD.ok at ho
      unfold CD.fact at hf
      rw [hp] at z ⊢
      cases hi : e.ini with
      | none =>
        rw [hi] at ho hf
        simp only [Bool.and_eq_true, decide_eq_true_eq] at ho hf
        have e1 : (clOf K t e.c).1 = He.ga K e.name := by show He.ga K (t.nm.cl e.c) = _; rw [ho.1]
        have hdf : e.df = ⟨0, 0, .cons (.rob 0 e.c .no) .nil⟩ := by unfold CD.df; rw [hi]
        refine ⟨by rw [e1, ho.1]; exact He.glo_ok X G (insB_ok hf.1).1, .inr ?_⟩
        rw [hdf] at z
        unfold runD at z
        have hlen : ts.length = 0 := Classical.byContradiction fun q => by rw [if_neg q] at z; cases z
        rw [if_pos hlen] at z
        have hts := List.length_eq_zero_iff.mp hlen
        subst hts
        refine ⟨rfl, (Option.some.inj z).symm, ⟨by rw [e1]; exact hf.2.1.1, by rw [e1]; exact hf.2.1.2, by rw [e1]; exact hf.2.2⟩, ?_⟩
        show (if t.nm.fl e.c = "" then [] else [t.nm.fl e.c]) = _
        rw [if_pos ho.2]
      | some q =>
        obtain ⟨f0, l, st, sf, x⟩ := q
        obtain ⟨fd, m1, m2, m3⟩ := ini_step (P := P) (w := w) (base := base) (W := W) X G c hex ht hx k (Phi t.gv t.D W k) he hi
        rw [hi] at ho hf
        simp only [Bool.and_eq_true, decide_eq_true_eq] at ho hf
        have e1 : (clOf K t e.c).1 = He.ga K e.name := by show He.ga K (t.nm.cl e.c) = _; rw [ho.1]
        have hdf : e.df = ⟨1, 1, .cons (.rob (if l then 1 else 2) e.c (.so (iniE0 l))) .nil⟩ := by unfold CD.df; rw [hi]
        refine ⟨by rw [e1, ho.1]; exact He.glo_ok X G (insB_ok hf.1).1, .inl ?_⟩
        have hr : ∃ u, r = .val (.obj e.c [u]) ∧ ts ≠ [] := by
          rw [hdf] at z
          unfold runD at z
          have hlen : ts.length = 1 := Classical.byContradiction fun q => by rw [if_neg q] at z; cases z
          rw [if_pos hlen] at z
          obtain ⟨out, z1, z2⟩ := map1 z
          simp only [execs, exec] at z1
          obtain ⟨o, z3, z4⟩ := bind1 z1
          obtain ⟨u, _, z5⟩ := bind1 z3
          obtain ⟨_, z6⟩ := ite1 z5
          subst z6
          cases z4
          exact ⟨u, z2.symm, fun q => by rw [q] at hlen; cases hlen⟩
        obtain ⟨u, hr1, hr2⟩ := hr
        refine ⟨k + 1, _, fd, [sf, x], u, rfl, hr1, ?_, m1, m2, hr2, m3⟩
        show (if t.nm.fl e.c = "" then [] else [t.nm.fl e.c]) = _
        rw [if_neg (by rw [ho.2.1.1.1.1]; exact ho.2.1.1.1.2)]
    · obtain ⟨d, hd, hp⟩ := phi_D z
      obtain ⟨e, he, h1, rfl⟩ := Tbl.find (.inr (by omega)) hd
      obtain ⟨fd, F, g1, _⟩ := tab_def c ht he
      obtain ⟨m1, m2, m3⟩ := tab_meth X G c hex ht he h1
      refine ⟨_, fd, e.ps, m1, m2, m3, g1, ?_⟩
      rw [hp]
      exact fn_step X G c hex ht hx (k + 1) _ ih he F
    · obtain ⟨d, hd, hp⟩ := phi_D z
      obtain ⟨e, he, rfl, rfl⟩ := Tbl.find (.inl hf) hd
      obtain ⟨fd, F, g1, ho⟩ := tab_def c ht he
      have ha : e.at_.2 = none := by
        unfold FD.ok at ho
        cases q : e.at_.2 with
        | none => rfl
        | some m =>
          rw [q] at ho
          simp only [Bool.and_eq_true, decide_eq_true_eq] at ho
          have := ho.1.1.1.1.1.1.1.1.1.2
          omega
      obtain ⟨q1, _⟩ := tab_glo X G c ht he ha
      refine ⟨_, fd, e.ps, q1, F.kp, g1, ?_⟩
      rw [hp]
      exact fn_step X G c hex ht hx (k + 1) _ ih he F
end
/-- the law's end, over a head by facts, with the script's bits -/
theorem walk_ofEB {l : PySem.W.OpenLaw} {n k : Nat} {q : Program} {loose : List Str} {XP : (Str → Option Value) → Heap → Prop} {YP : World → Heap → Prop} {d : DefRec} {CX : World → CXT} {x : Str}
    (hn : l.most = some n) (hn2 : n ≤ sizeLine) (hdf : d.params.defaults = []) (hr : Room k callerA)
    (F : ∀ (w : World) (mg : Str → Option Value) (fa : Addr) (h : Heap), YP w h → h.Ns mainGlobals mg → mg d.name = some (.ref fa) →
      ∃ (K : PySem.W.Frag) (fd : FuncData) (sp : Sp), K.In h ∧ (∀ (s : Shared) (u : Value), BindsTo s fd ⟨[u], []⟩ [(x, u)]) ∧
        (∀ (H : Hp) (a : Addr) (ns : List Int), ns.length ≤ n → (∀ z ∈ ns, Builtin.Int.intBits z ≤ 1048576) → Only H → SqL K H a (ns.map V.int) → sp [.ref a] H (fun v _ => v = .bl true) fun _ _ _ => False) ∧
        ∀ base : Heap, K.In base → base.Ns mainGlobals mg → FnOk l.prog w K mg base (CX w) k fa fd [x] sp)
    (hCX : ∀ (w : World) (H : Hp) (s : Shared) (e : Value) (s' : Shared), CX w [] H s (fun _ _ _ => False) e s' → False) :
    PySem.W.WalkO q loose XP YP l.row.toRowW d [] (fun f vs => PySem.call f vs) := by
  refine Att.attach_callB hn hdf fun w s₀ s₁ mg mb fa o pm cd doc a vs ns G Y ho hd hcd hmg hobj hints hlen hbits hg => ?_
  obtain ⟨K, fd, sp, KX, hb, hsp, hF⟩ := F w mg fa _ Y G.T.g hmg
  exact law_call KX G.T.g G.T.b G.T.builtins G.T.nolimit hg hobj hints (Nat.le_trans hlen hn2) hr hF hb (fun H hO hS => hsp H a ns hlen hbits hO hS) fun H e s' => hCX w H s₁ e s'
theorem cx_false (P : Program) (w : World) (H : Hp) (s : Shared) (e : Value) (s' : Shared) (h : L2.CX P w [] H s (fun _ _ _ => False) e s') : False := by
  obtain ⟨_, _, _, _, _, _, _, _, _, _, _, _, z⟩ := h
  exact z
/-- the Hook: facts, defs, one more Bool -/
def obsE (n : Nat) (fa : List He.Fa) (fn : List He.DefD) (ex : PySem.W.Frag → Bool) (g : Addr → Option Obj) : He.AlD × Bool := (He.obsD fa fn (He.frG g (He.asD g n)), ex (He.frG g (He.asD g n)))
def hookE (n : Nat) (fa : List He.Fa) (fn : List He.DefD) (ex : PySem.W.Frag → Bool) : PySem.W.Hook where
  α := He.AlD × Bool
  obs := fun s => obsE n fa fn ex s.heap.get?
  val := fun _ => (He.valD fn, true)
  says := fun _ h => ∃ K : PySem.W.Frag, K.In h ∧ He.SaysD fa fn K ∧ ex K = true
  of := fun _ _ e => ⟨_, He.frG_in, congrArg (fun z : He.AlD × Bool => z.1) e, congrArg (fun z : He.AlD × Bool => z.2) e⟩
  keeps := fun _ _ _ ⟨K, hK, c⟩ k => ⟨K, PySem.W.Frag.In.keeps hK k, c⟩
theorem obsE_eq {n : Nat} {fa : List He.Fa} {fn : List He.DefD} {ex : PySem.W.Frag → Bool} {g : Addr → Option Obj} {s : Shared} (h : ∀ a, g a = s.heap.get? a) : obsE n fa fn ex g = (hookE n fa fn ex).obs s := by
  have e : g = s.heap.get? := funext h
  rw [e] <;> rfl
/-- a law by its table and the trees' run -/
theorem law_walk {l : PySem.W.OpenLaw} {q : Program} {loose : List Str} {XP : (Str → Option Value) → Heap → Prop} {d : DefRec} (t : Tbl) (e : FD) (W k : Nat) (hn : l.most = some 63) (hdf : d.params.defaults = []) (hr : Room (k + 2) callerA) (m : Nat)
    (ht : t.ok = true) (hx : t.xok) (he : e ∈ t.fns) (hD : t.D e.f = some e.d) (hat : e.at_ = (e.name, none)) (hnm : d.name = e.name) {x : Str} (hps : e.ps = [x])
    (run : ∀ ns : List Int, ns.length ≤ 63 → (∀ z ∈ ns, Builtin.Int.intBits z ≤ 1048576) → Phi t.gv t.D W (k + 1) e.f [.scr ns] = some (.val (.bl true))) :
    PySem.W.WalkO q loose XP (hookE m t.fa t.fn t.ex).says l.row.toRowW d [] (fun f vs => PySem.call f vs) := by
  refine walk_ofEB (n := 63) (k := k + 2) (x := x) (CX := fun w => L2.CX l.prog w) hn (by decide) hdf hr ?_ (fun w H s e s' z => cx_false _ w H s e s' z)
  intro w mg fa h Y G hmg
  obtain ⟨K, KX, c, hex⟩ := Y
  obtain ⟨fd, F, g3, ho⟩ := tab_def c ht he
  obtain ⟨g1, hf0⟩ := tab_glo KX G c ht he (by rw [hat])
  have hf : fa = He.fAd K e.at_ := by
    have ho' := ho
    unfold FD.ok at ho'
    rw [hat] at ho'
    simp only [Bool.and_eq_true, decide_eq_true_eq] at ho'
    rw [ho'.1.1.1.1.1.1.1.1, ← hnm, hmg] at g1
    cases g1
    rfl
  subst hf
  have ho' := ho
  unfold FD.ok at ho'
  simp only [Bool.and_eq_true, decide_eq_true_eq] at ho'
  refine ⟨K, fd, spF K (clOf K t) (Phi t.gv t.D W (k + 1) e.f), KX, fun s v => ?_, fun H a ns hl hbits hO hS => ?_, fun base hb1 hb2 => ?_⟩
  · have b := FunD.bindsA F (ps := e.ps) (fun kV doc pm an cdv ct us hl => bind_ok ho'.2 kV doc pm an cdv ct us hl) s [v] (by rw [hps]; rfl)
    rw [hps] at b
    exact b
  · refine ⟨[.scr ns], _, ⟨_, _, rfl, ⟨a, rfl, ?_, Nat.le_trans hl (by decide)⟩, rfl⟩, run ns hl hbits, fun u z v H' e' r' => ?_, (fun cc z => nomatch z), (fun cc z => nomatch z)⟩
    · rcases hS with (hS | hS) | hS
      · rcases hO a with z | ⟨o, xs, z⟩
        · rw [hS] at z; cases z
        · rw [hS] at z; cases z
      · exact .inl hS
      · exact .inr hS
    · cases z
      exact r'
  · rw [← hps]
    have hp : Phi t.gv t.D W (k + 1) e.f = runD t.gv (Phi t.gv t.D W k) W e.d := by
      funext ts
      show (t.D e.f).bind _ = _
      rw [hD]; rfl
    rw [hp]
    exact fn_step KX G c hex ht hx (k + 1) _ (lv_ok KX G c hex ht hx k) he F
end Sb
namespace Sb
open PySem L2
def nmOf (l : List (Nat × Str)) (i : Nat) : Str := ((l.find? fun e => e.1 == i).map (·.2)).getD ""
def flOf (cds : List CD) (c : Nat) : Str := (((cds.find? fun e => e.c == c).bind fun e => e.ini).map fun q => q.1).getD ""
def kinOf (kns : List (Nat × Nat × Bool)) (c d : Nat) : Option Bool := (kns.find? fun e => e.1 == c && e.2.1 == d).map fun e => e.2.2
def tblOf (fns : List FD) (gls : List (Nat × Str × Int)) (xcs : List (Nat × Str)) (cds : List CD) (cls : List (Nat × Str)) (kns : List (Nat × Nat × Bool)) : Tbl :=
  ⟨⟨nmOf (fns.map fun e => (e.f, e.name)), nmOf (gls.map fun e => (e.1, e.2.1)), fun c => if c < 20 then nmOf xcs c else nmOf cls c, flOf cds, kinOf kns⟩, fns, gls, xcs, cds, kns⟩
theorem nmOf_mem {l : List (Nat × Str)} {i : Nat} (h : nmOf l i ≠ "") : (i, nmOf l i) ∈ l := by
  unfold nmOf at h ⊢
  cases q : l.find? fun e => e.1 == i with
  | none => rw [q] at h; exact absurd rfl h
  | some e =>
    have h1 := List.mem_of_find?_eq_some q
    have h2 : e.1 = i := by have := List.find?_some q; simpa using this
    rw [← h2]
    exact h1
theorem tblOf_x {fns : List FD} {gls : List (Nat × Str × Int)} {xcs : List (Nat × Str)} {cds : List CD} {cls : List (Nat × Str)} {kns : List (Nat × Nat × Bool)} : (tblOf fns gls xcs cds cls kns).xok := by
  refine ⟨fun c h20 h => ?_, fun c d b h => ?_, fun c h => ?_⟩
  · have e : (tblOf fns gls xcs cds cls kns).nm.cl c = nmOf xcs c := if_pos h20
    rw [e] at h ⊢
    exact nmOf_mem h
  · have h' : (kns.find? fun e => e.1 == c && e.2.1 == d).map (fun e => e.2.2) = some b := h
    obtain ⟨e, h1, h2⟩ := map1 h'
    have h3 := List.find?_some h1
    have h4 := List.mem_of_find?_eq_some h1
    simp only [Bool.and_eq_true, beq_iff_eq] at h3
    obtain ⟨e1, e2, e3⟩ := e
    simp only at h2 h3
    obtain ⟨rfl, rfl⟩ := h3
    subst h2
    exact h4
  · have h' : flOf cds c ≠ "" := h
    unfold flOf at h'
    cases q : cds.find? fun e => e.c == c with
    | none => rw [q] at h'; exact absurd rfl h'
    | some e =>
      have h1 := List.find?_some q
      exact ⟨e, List.mem_of_find?_eq_some q, by simpa using h1⟩
/-- a def of a class -/
def inCls (s : Stmt) (j : Nat) : Stmt := match s with
  | .ClassDef _ _ _ b _ _ _ _ _ _ _ => b.getD j s
  | s => s
/-- the makings of the four classes -/
def mkD (c : Nat) : Df := if c = 22 then ⟨0, 0, .cons (.rob 0 c .no) .nil⟩ else ⟨1, 1, .cons (.rob (if c = 21 then 2 else 1) c (.so (iniE0 (decide (c ≠ 21))))) .nil⟩
class Has (D : Nat → Option Df) (f : Nat) (d : outParam Df) : Prop where
  eq : D f = some d
theorem phi_one {gv : Nat → Option Int} {D : Nat → Option Df} {W n f : Nat} {d : Df} [h : Has D f d] (ts : List T) : Phi gv D W (n + 1) f ts = runD gv (Phi gv D W n) W d ts := by
  show (D f).bind _ = _
  rw [h.eq]; rfl
end Sb
namespace Sb
abbrev i_is_whole : Nat := 1
abbrev i_is_pair : Nat := 2
abbrev i_span : Nat := 3
abbrev i_stands : Nat := 4
abbrev i_is_near : Nat := 5
abbrev i_added : Nat := 6
abbrev i_put_in : Nat := 7
abbrev i_gathered : Nat := 8
abbrev i_law_number : Nat := 9
abbrev i_law_span : Nat := 10
abbrev i_law_pair : Nat := 11
abbrev i_law_sticks : Nat := 12
abbrev i_law_sum : Nat := 13
abbrev i_law_rows : Nat := 14
abbrev i_law : Nat := 15
abbrev i_check_sticks : Nat := 16
abbrev i_check_point : Nat := 17
abbrev i_corners : Nat := 18
abbrev i_opposite : Nat := 19
abbrev i_law_whole : Nat := 20
abbrev i_law_corners : Nat := 21
abbrev i_law_holds : Nat := 22
abbrev i_law_sums : Nat := 23
abbrev i_area_of : Nat := 25
abbrev i_area : Nat := 26
def d_is_whole : Df := ⟨1, 1, .cons (.ret 0 (.pure (.and (.isi (.var 0) (.int)) (.not (.isi (.var 0) (.bool)))))) .nil⟩
def d_is_pair : Df := ⟨1, 1, .cons (.ret 0 (.pure (.and (.isi (.var 0) (.tuple)) (.and (.cmp .eq (.blt .len (.cons (.var 0) .nil)) (.cint 2)) (.and (.call i_is_whole (.cons (.sub (.var 0) (.cint 0)) .nil)) (.call i_is_whole (.cons (.sub (.var 0) (.cint 1)) .nil))))))) .nil⟩
def d_span : Df := ⟨2, 2, .cons (.ret 0 (.pure (.bin .sub (.bin .mul (.sub (.var 0) (.cint 0)) (.sub (.var 1) (.cint 1))) (.bin .mul (.sub (.var 0) (.cint 1)) (.sub (.var 1) (.cint 0)))))) .nil⟩
def d_stands : Df := ⟨1, 1, .cons (.ret 0 (.pure (.or (.cmp .gt (.sub (.var 0) (.cint 1)) (.cint 0)) (.and (.cmp .eq (.sub (.var 0) (.cint 1)) (.cint 0)) (.cmp .gt (.sub (.var 0) (.cint 0)) (.cint 0)))))) .nil⟩
def d_is_near : Df := ⟨1, 1, .cons (.ret 0 (.pure (.and (.chn .le .le (.neg (.glob 1)) (.sub (.var 0) (.cint 0)) (.glob 1)) (.chn .le .le (.neg (.glob 1)) (.sub (.var 0) (.cint 1)) (.glob 1))))) .nil⟩
def d_added : Df := ⟨1, 2, .cons (.ret 0 (.pure (.tup (.cons (.blt .sum (.cons (.lc [1] (.nm 1) (.seq (.var 0)) (.no) (.sub (.var 1) (.cint 0))) .nil)) (.cons (.blt .sum (.cons (.lc [1] (.nm 1) (.seq (.var 0)) (.no) (.sub (.var 1) (.cint 1))) .nil)) .nil))))) .nil⟩
def d_put_in : Df := ⟨2, 4, .cons (.for_ (.tp [2, 3]) (.enm (.var 0)) (.cons (.iff (.cmp .eq (.call i_span (.cons (.var 3) (.cons (.var 1) .nil))) (.cint 0)) (.cons (.ret 1 (.pure (.bin .add (.bin .add (.cut (.var 0) (.no) (.so (.var 2))) (.lst (.cons (.call i_added (.cons (.lst (.cons (.var 3) (.cons (.var 1) .nil))) .nil)) .nil))) (.cut (.var 0) (.so (.bin .add (.var 2) (.cint 1))) (.no))))) .nil) (.nil)) (.cons (.iff (.cmp .gt (.call i_span (.cons (.var 1) (.cons (.var 3) .nil))) (.cint 0)) (.cons (.ret 1 (.pure (.bin .add (.bin .add (.cut (.var 0) (.no) (.so (.var 2))) (.lst (.cons (.var 1) .nil))) (.cut (.var 0) (.so (.var 2)) (.no))))) .nil) (.nil)) .nil))) (.cons (.ret 1 (.pure (.bin .add (.var 0) (.lst (.cons (.var 1) .nil))))) .nil)⟩
def d_gathered : Df := ⟨1, 4, .cons (.iff (.or (.not (.isi (.var 0) (.list))) (.or (.not (.chn .le .le (.cint 1) (.blt .len (.cons (.var 0) .nil)) (.glob 0))) (.not (.blt .all (.cons (.lc [1] (.nm 1) (.seq (.var 0)) (.no) (.call i_is_pair (.cons (.var 1) .nil))) .nil))))) (.cons (.rse 1) .nil) (.nil)) (.cons (.iff (.not (.blt .all (.cons (.lc [1] (.nm 1) (.seq (.var 0)) (.no) (.and (.call i_is_near (.cons (.var 1) .nil)) (.cmp .ne (.var 1) (.tup (.cons (.cint 0) (.cons (.cint 0) .nil)))))) .nil))) (.cons (.rse 1) .nil) (.nil)) (.cons (.par [2, 3] (.cons (.lst (.nil)) (.cons (.lc [1] (.nm 1) (.seq (.var 0)) (.so (.not (.call i_stands (.cons (.var 1) .nil)))) (.var 1)) .nil))) (.cons (.for_ (.nm 1) (.seq (.var 0)) (.cons (.asg (.nm 2) (.call i_put_in (.cons (.var 2) (.cons (.ite (.call i_stands (.cons (.var 1) .nil)) (.var 1) (.tup (.cons (.neg (.sub (.var 1) (.cint 0))) (.cons (.neg (.sub (.var 1) (.cint 1))) .nil)))) .nil)))) .nil)) (.cons (.ret 0 (.pure (.tup (.cons (.var 2) (.cons (.call i_added (.cons (.var 3) .nil)) .nil))))) .nil))))⟩
def d_law_number : Df := ⟨3, 5, .cons (.iff (.cmp .ge (.var 0) (.bin .pow (.cint 10) (.cint 18))) (.cons (.ret 2 (.pure (.var 0))) .nil) (.nil)) (.cons (.asg (.nm 3) (.bin .mod (.bin .add (.bin .mul (.bin .add (.var 0) (.bin .mul (.cint 977) (.var 1))) (.cint 48271)) (.var 2)) (.cint 2147483647))) (.cons (.asg (.nm 4) (.bin .mul (.bin .mul (.var 3) (.bin .add (.bin .add (.var 3) (.bin .mul (.cint 31) (.var 1))) (.cint 7))) (.bin .add (.bin .add (.var 3) (.var 0)) (.cint 5)))) (.cons (.ret 0 (.pure (.bin .fdiv (.bin .mul (.var 4) (.bin .add (.var 4) (.cint 48271))) (.cint 1009)))) .nil)))⟩
def d_law_span : Df := ⟨2, 2, .cons (.ret 0 (.pure (.bin .sub (.bin .mul (.sub (.var 0) (.cint 0)) (.sub (.var 1) (.cint 1))) (.bin .mul (.sub (.var 0) (.cint 1)) (.sub (.var 1) (.cint 0)))))) .nil⟩
def d_law_pair : Df := ⟨2, 4, .cons (.par [2, 3] (.cons (.bin .sub (.bin .mod (.var 0) (.bin .add (.bin .mul (.cint 2) (.var 1)) (.cint 1))) (.var 1)) (.cons (.bin .mod (.bin .fdiv (.var 0) (.cint 41)) (.bin .add (.var 1) (.cint 1))) .nil))) (.cons (.iff (.cmp .eq (.var 3) (.cint 0)) (.cons (.asg (.nm 2) (.bin .add (.cint 1) (.bin .mod (.blt .abs (.cons (.var 2) .nil)) (.var 1)))) .nil) (.nil)) (.cons (.ret 0 (.pure (.tup (.cons (.var 2) (.cons (.var 3) .nil))))) .nil))⟩
def d_law_sticks : Df := ⟨4, 11, .cons (.asg (.nm 4) (.ite (.cmp .ne (.var 0) (.lst (.nil))) (.cut (.var 0) (.no) (.so (.cint 63))) (.lst (.cons (.cint 5) .nil)))) (.cons (.asg (.nm 5) (.bin .add (.blt .sum (.cons (.var 4) .nil)) (.var 1))) (.cons (.asg (.nm 6) (.lst (.nil))) (.cons (.for_ (.nm 7) (.rng1 (.bin .add (.cint 1) (.bin .mod (.var 5) (.var 2)))) (.cons (.asg (.nm 8) (.call i_law_pair (.cons (.bin .fdiv (.call i_law_number (.cons (.sub (.var 4) (.bin .mod (.bin .add (.var 7) (.var 1)) (.blt .len (.cons (.var 4) .nil)))) (.cons (.bin .add (.var 7) (.var 1)) (.cons (.var 5) .nil)))) (.cint 3)) (.cons (.var 3) .nil)))) (.cons (.iff (.not (.blt .any (.cons (.lc [10] (.nm 10) (.seq (.var 6)) (.no) (.cmp .eq (.call i_law_span (.cons (.var 10) (.cons (.var 8) .nil))) (.cint 0))) .nil))) (.cons (.asg (.nm 9) (.blt .len (.cons (.lc [10] (.nm 10) (.seq (.var 6)) (.so (.cmp .gt (.call i_law_span (.cons (.var 10) (.cons (.var 8) .nil))) (.cint 0))) (.var 10)) .nil))) (.cons (.ins 6 (.var 9) (.var 8)) .nil)) (.nil)) .nil))) (.cons (.ret 0 (.pure (.var 6))) .nil))))⟩
def d_law_sum : Df := ⟨1, 2, .cons (.ret 0 (.pure (.tup (.cons (.blt .sum (.cons (.lc [1] (.nm 1) (.seq (.var 0)) (.no) (.sub (.var 1) (.cint 0))) .nil)) (.cons (.blt .sum (.cons (.lc [1] (.nm 1) (.seq (.var 0)) (.no) (.sub (.var 1) (.cint 1))) .nil)) .nil))))) .nil⟩
def d_law_rows : Df := ⟨2, 6, .cons (.asg (.nm 2) (.call i_law_sticks (.cons (.var 0) (.cons (.var 1) (.cons (.cint 6) (.cons (.cint 20) .nil)))))) (.cons (.asg (.nm 3) (.ite (.cmp .ne (.var 0) (.lst (.nil))) (.cut (.var 0) (.no) (.so (.cint 63))) (.lst (.cons (.cint 4) .nil)))) (.cons (.for_ (.nm 4) (.rng1 (.blt .len (.cons (.var 2) .nil))) (.cons (.asg (.nm 5) (.call i_law_number (.cons (.sub (.var 3) (.bin .mod (.var 4) (.blt .len (.cons (.var 3) .nil)))) (.cons (.bin .add (.var 4) (.var 1)) (.cons (.cint 11) .nil))))) (.cons (.iff (.cmp .eq (.bin .mod (.var 5) (.cint 3)) (.cint 0)) (.cons (.put 2 (.var 4) (.tup (.cons (.neg (.sub (.sub (.var 2) (.var 4)) (.cint 0))) (.cons (.neg (.sub (.sub (.var 2) (.var 4)) (.cint 1))) .nil)))) .nil) (.nil)) (.cons (.iff (.and (.cmp .eq (.bin .mod (.var 5) (.cint 5)) (.cint 0)) (.and (.cmp .gt (.var 4) (.cint 0)) (.cmp .lt (.blt .max (.cons (.blt .abs (.cons (.sub (.sub (.var 2) (.bin .sub (.var 4) (.cint 1))) (.cint 0)) .nil)) (.cons (.blt .abs (.cons (.sub (.sub (.var 2) (.bin .sub (.var 4) (.cint 1))) (.cint 1)) .nil)) .nil))) (.cint 11)))) (.cons (.put 2 (.var 4) (.tup (.cons (.bin .mul (.neg (.cint 2)) (.sub (.sub (.var 2) (.bin .sub (.var 4) (.cint 1))) (.cint 0))) (.cons (.bin .mul (.neg (.cint 2)) (.sub (.sub (.var 2) (.bin .sub (.var 4) (.cint 1))) (.cint 1))) .nil)))) .nil) (.nil)) .nil)))) (.cons (.ret 0 (.pure (.ite (.cmp .eq (.bin .mod (.blt .len (.cons (.var 2) .nil)) (.cint 2)) (.cint 1)) (.rev (.var 2)) (.var 2)))) .nil)))⟩
def d_law : Df := ⟨1, 14, .cons (.for_ (.nm 1) (.rng1 (.cint 3)) (.cons (.asg (.nm 2) (.call i_law_rows (.cons (.var 0) (.cons (.var 1) .nil)))) (.cons (.asg (.nm 3) (.blt .list (.cons (.var 2) .nil))) (.cons (.asg (.nm 4) (.lc [8] (.nm 8) (.seq (.var 2)) (.no) (.ite (.or (.cmp .gt (.sub (.var 8) (.cint 1)) (.cint 0)) (.and (.cmp .eq (.sub (.var 8) (.cint 1)) (.cint 0)) (.cmp .gt (.sub (.var 8) (.cint 0)) (.cint 0)))) (.var 8) (.tup (.cons (.neg (.sub (.var 8) (.cint 0))) (.cons (.neg (.sub (.var 8) (.cint 1))) .nil)))))) (.cons (.for_ (.nm 5) (.rng1 (.cint 2)) (.cons (.asgC 6 i_gathered (.cons (.var 3) .nil)) (.cons (.iff (.or (.not (.isi (.var 6) (.tuple))) (.or (.cmp .ne (.blt .len (.cons (.var 6) .nil)) (.cint 2)) (.or (.not (.isi (.sub (.var 6) (.cint 0)) (.list))) (.cmp .ne (.var 3) (.var 2))))) (.cons (.ret 0 (.pure (.cbl false))) .nil) (.nil)) (.cons (.unp [9, 10] 6) (.cons (.iff (.or (.cmp .ne (.var 10) (.call i_law_sum (.cons (.lc [8] (.nm 8) (.seq (.var 2)) (.so (.cmp .nmem (.var 8) (.var 4))) (.var 8)) .nil))) (.not (.isi (.var 10) (.tuple)))) (.cons (.ret 0 (.pure (.cbl false))) .nil) (.nil)) (.cons (.iff (.blt .any (.cons (.lc [12, 13] (.tp [12, 13]) (.zip (.var 9) (.cut (.var 9) (.so (.cint 1)) (.no))) (.no) (.cmp .le (.call i_law_span (.cons (.var 12) (.cons (.var 13) .nil))) (.cint 0))) .nil)) (.cons (.ret 0 (.pure (.cbl false))) .nil) (.nil)) (.cons (.fro (.nm 7) 9 (.cons (.asgF 11 (.lc [8] (.nm 8) (.seq (.var 4)) (.so (.cmp .eq (.call i_law_span (.cons (.var 7) (.cons (.var 8) .nil))) (.cint 0))) (.var 8))) (.cons (.iff (.or (.cmp .eq (.var 11) (.lst (.nil))) (.or (.cmp .ne (.var 7) (.call i_law_sum (.cons (.var 11) .nil))) (.not (.isi (.var 7) (.tuple))))) (.cons (.ret 2 (.pure (.cbl false))) .nil) (.nil)) .nil))) (.cons (.iff (.not (.blt .all (.cons (.lc [8] (.nm 8) (.seq (.var 4)) (.no) (.blt .any (.cons (.lc [7] (.nm 7) (.seq (.var 9)) (.no) (.cmp .eq (.call i_law_span (.cons (.var 7) (.cons (.var 8) .nil))) (.cint 0))) .nil))) .nil))) (.cons (.ret 0 (.pure (.cbl false))) .nil) (.nil)) (.cons (.app 9 (.tup (.cons (.cint 0) (.cons (.cint 0) .nil)))) .nil))))))))) .nil))))) (.cons (.iff (.cmp .ne (.call i_gathered (.cons (.lst (.cons (.tup (.cons (.cint 0) (.cons (.neg (.cint 2)) .nil))) (.cons (.tup (.cons (.cint 0) (.cons (.cint 3) .nil))) (.cons (.tup (.cons (.cint 1) (.cons (.cint 0) .nil))) .nil)))) .nil)) (.tup (.cons (.lst (.cons (.tup (.cons (.cint 1) (.cons (.cint 0) .nil))) (.cons (.tup (.cons (.cint 0) (.cons (.cint 5) .nil))) .nil))) (.cons (.tup (.cons (.cint 0) (.cons (.neg (.cint 2)) .nil))) .nil)))) (.cons (.ret 0 (.pure (.cbl false))) .nil) (.nil)) (.cons (.ret 0 (.pure (.and (.cmp .eq (.call i_gathered (.cons (.lst (.cons (.tup (.cons (.neg (.cint 4)) (.cons (.cint 0) .nil))) .nil)) .nil)) (.tup (.cons (.lst (.cons (.tup (.cons (.cint 4) (.cons (.cint 0) .nil))) .nil)) (.cons (.tup (.cons (.neg (.cint 4)) (.cons (.cint 0) .nil))) .nil)))) (.cmp .eq (.call i_gathered (.cons (.lst (.cons (.tup (.cons (.cint 1) (.cons (.cint 1) .nil))) (.cons (.tup (.cons (.cint 1) (.cons (.cint 1) .nil))) .nil))) .nil)) (.tup (.cons (.lst (.cons (.tup (.cons (.cint 2) (.cons (.cint 2) .nil))) .nil)) (.cons (.tup (.cons (.cint 0) (.cons (.cint 0) .nil))) .nil))))))) .nil))⟩
def d_check_sticks : Df := ⟨1, 4, .cons (.iff (.or (.not (.isi (.var 0) (.list))) (.or (.not (.chn .le .le (.cint 1) (.blt .len (.cons (.var 0) .nil)) (.glob 0))) (.not (.blt .all (.cons (.lc [1] (.nm 1) (.seq (.var 0)) (.no) (.call i_is_pair (.cons (.var 1) .nil))) .nil))))) (.cons (.rse 1) .nil) (.nil)) (.cons (.iff (.not (.blt .all (.cons (.lc [1] (.nm 1) (.seq (.var 0)) (.no) (.and (.call i_stands (.cons (.var 1) .nil)) (.call i_is_near (.cons (.var 1) .nil)))) .nil))) (.cons (.rse 1) .nil) (.nil)) (.cons (.iff (.blt .any (.cons (.lc [2, 3] (.tp [2, 3]) (.zip (.var 0) (.cut (.var 0) (.so (.cint 1)) (.no))) (.no) (.cmp .le (.call i_span (.cons (.var 2) (.cons (.var 3) .nil))) (.cint 0))) .nil)) (.cons (.rse 1) .nil) (.nil)) .nil))⟩
def d_check_point : Df := ⟨1, 1, .cons (.iff (.not (.call i_is_pair (.cons (.var 0) .nil))) (.cons (.rse 2) .nil) (.nil)) .nil⟩
def d_corners : Df := ⟨1, 4, .cons (.exp (.call i_check_sticks (.cons (.var 0) .nil))) (.cons (.asg (.nm 1) (.lc [3] (.nm 3) (.rng1 (.bin .add (.blt .len (.cons (.var 0) .nil)) (.cint 1))) (.no) (.call i_added (.cons (.cut (.var 0) (.no) (.so (.var 3))) .nil)))) (.cons (.asg (.nm 2) (.lc [3] (.nm 3) (.rng2 (.cint 1) (.blt .len (.cons (.var 0) .nil))) (.no) (.call i_added (.cons (.cut (.var 0) (.so (.var 3)) (.no)) .nil)))) (.cons (.ret 0 (.pure (.bin .add (.var 1) (.var 2)))) .nil)))⟩
def d_opposite : Df := ⟨2, 3, .cons (.exp (.call i_check_sticks (.cons (.var 0) .nil))) (.cons (.exp (.call i_check_point (.cons (.var 1) .nil))) (.cons (.asg (.nm 2) (.call i_added (.cons (.var 0) .nil))) (.cons (.ret 0 (.pure (.tup (.cons (.bin .sub (.sub (.var 2) (.cint 0)) (.sub (.var 1) (.cint 0))) (.cons (.bin .sub (.sub (.var 2) (.cint 1)) (.sub (.var 1) (.cint 1))) .nil))))) .nil)))⟩
def d_law_whole : Df := ⟨1, 1, .cons (.ret 0 (.pure (.and (.isi (.var 0) (.int)) (.not (.isi (.var 0) (.bool)))))) .nil⟩
def d_law_corners : Df := ⟨1, 4, .cons (.par [2, 3] (.cons (.lst (.nil)) (.cons (.tup (.cons (.cint 0) (.cons (.cint 0) .nil))) .nil))) (.cons (.for_ (.nm 1) (.seq (.var 0)) (.cons (.app 2 (.var 3)) (.cons (.asg (.nm 3) (.tup (.cons (.bin .add (.sub (.var 3) (.cint 0)) (.sub (.var 1) (.cint 0))) (.cons (.bin .add (.sub (.var 3) (.cint 1)) (.sub (.var 1) (.cint 1))) .nil)))) .nil))) (.cons (.for_ (.nm 1) (.seq (.var 0)) (.cons (.app 2 (.var 3)) (.cons (.asg (.nm 3) (.tup (.cons (.bin .sub (.sub (.var 3) (.cint 0)) (.sub (.var 1) (.cint 0))) (.cons (.bin .sub (.sub (.var 3) (.cint 1)) (.sub (.var 1) (.cint 1))) .nil)))) .nil))) (.cons (.ret 1 (.pure (.var 2))) .nil)))⟩
def d_law_holds : Df := ⟨2, 9, .cons (.asg (.nm 2) (.call i_law_corners (.cons (.var 0) .nil))) (.cons (.for_ (.tp [3, 4]) (.enm (.var 2)) (.cons (.asg (.nm 5) (.sub (.var 2) (.bin .mod (.bin .add (.var 3) (.cint 1)) (.blt .len (.cons (.var 2) .nil))))) (.cons (.asg (.nm 6) (.tup (.cons (.bin .sub (.sub (.var 5) (.cint 0)) (.sub (.var 4) (.cint 0))) (.cons (.bin .sub (.sub (.var 5) (.cint 1)) (.sub (.var 4) (.cint 1))) .nil)))) (.cons (.iff (.cmp .lt (.call i_law_span (.cons (.var 6) (.cons (.tup (.cons (.bin .sub (.sub (.var 1) (.cint 0)) (.sub (.var 4) (.cint 0))) (.cons (.bin .sub (.sub (.var 1) (.cint 1)) (.sub (.var 4) (.cint 1))) .nil))) .nil))) (.cint 0)) (.cons (.ret 0 (.pure (.cbl false))) .nil) (.nil)) .nil)))) (.cons (.iff (.cmp .gt (.blt .len (.cons (.var 0) .nil)) (.cint 1)) (.cons (.ret 0 (.pure (.cbl true))) .nil) (.nil)) (.cons (.asg (.tp [7, 8]) (.sub (.var 0) (.cint 0))) (.cons (.ret 0 (.pure (.chn .le .le (.cint 0) (.bin .add (.bin .mul (.var 7) (.sub (.var 1) (.cint 0))) (.bin .mul (.var 8) (.sub (.var 1) (.cint 1)))) (.bin .add (.bin .mul (.var 7) (.var 7)) (.bin .mul (.var 8) (.var 8)))))) .nil))))⟩
def d_law_sums : Df := ⟨1, 4, .cons (.asg (.nm 1) (.lst (.cons (.tup (.cons (.cint 0) (.cons (.cint 0) .nil))) .nil))) (.cons (.for_ (.nm 2) (.seq (.var 0)) (.cons (.asg (.nm 1) (.bin .add (.var 1) (.lc [3] (.nm 3) (.seq (.var 1)) (.no) (.tup (.cons (.bin .add (.sub (.var 3) (.cint 0)) (.sub (.var 2) (.cint 0))) (.cons (.bin .add (.sub (.var 3) (.cint 1)) (.sub (.var 2) (.cint 1))) .nil)))))) .nil)) (.cons (.ret 1 (.pure (.var 1))) .nil))⟩
def d_area_of : Df := ⟨1, 5, .cons (.asg (.nm 1) (.cint 0)) (.cons (.for_ (.tp [2, 3]) (.enm (.var 0)) (.cons (.aug .add 1 (.blt .sum (.cons (.lc [4] (.nm 4) (.seq (.cut (.var 0) (.so (.bin .add (.var 2) (.cint 1))) (.no))) (.no) (.call i_span (.cons (.var 3) (.cons (.var 4) .nil)))) .nil))) .nil)) (.cons (.ret 0 (.pure (.var 1))) .nil))⟩
def d_area : Df := ⟨1, 1, .cons (.exp (.call i_check_sticks (.cons (.var 0) .nil))) (.cons (.ret 0 (.call i_area_of (.cons (.var 0) .nil))) .nil)⟩
end Sb
namespace Sb
abbrev P2 := Int × Int
def pt (p : P2) : T := .tup [.int p.1, .int p.2]
theorem atI0 {α : Type} (a : α) (l : List α) : L2.atI (a :: l) 0 = some a := by
  simp [L2.atI, L2.ixN]
theorem atI1 {α : Type} (a b : α) (l : List α) : L2.atI (a :: b :: l) 1 = some b := by
  have h : (1 : Int) < (l.length : Int) + 1 + 1 := by omega
  simp [L2.atI, L2.ixN, h]
theorem atI2 {α : Type} (a b c : α) (l : List α) : L2.atI (a :: b :: c :: l) 2 = some c := by
  have h : (2 : Int) < (l.length : Int) + 1 + 1 + 1 := by omega
  simp [L2.atI, L2.ixN, h]
theorem atI_nat {α : Type} (l : List α) (i : Nat) : L2.atI l (i : Int) = l[i]? := by
  unfold L2.atI L2.ixN
  by_cases h : i < l.length
  · have h1 : (0 : Int) ≤ (i : Int) ∧ (i : Int) < (l.length : Int) := by omega
    simp [h1.1, h1.2, h]
  · have h1 : ¬ ((i : Int) < (l.length : Int)) := by omega
    have h2 : ¬ ((i : Int) < 0) := by omega
    simp [h1, h]
theorem sub_pt0 (p : P2) : subT (pt p) (.int 0) = some (.int p.1) := atI0 _ _
theorem sub_pt1 (p : P2) : subT (pt p) (.int 1) = some (.int p.2) := atI1 _ _ _
theorem imm_pt (p : P2) : imm (pt p) = true := rfl
theorem imms_pts : ∀ l : List P2, imms (l.map pt) = true
  | [] => rfl
  | p :: l => by rw [List.map_cons]; show (imm (pt p) && imms (l.map pt)) = true; rw [imms_pts l]; rfl
theorem imms_ints : ∀ l : List Int, imms (l.map T.int) = true
  | [] => rfl
  | p :: l => by rw [List.map_cons]; show (imm (.int p) && imms (l.map T.int)) = true; rw [imms_ints l]; rfl
theorem flat_pts (l : List P2) : flat (.lst (l.map pt)) = true := imms_pts l
theorem flat_ints (l : List Int) : flat (.lst (l.map T.int)) = true := imms_ints l
theorem dat_pt (p : P2) (n : Nat) : dat (n + 1) (pt p) = true := rfl
theorem dats_pts (n : Nat) : ∀ l : List P2, dats (n + 1) (l.map pt) = true
  | [] => rfl
  | p :: l => by rw [List.map_cons]; show (dat (n + 1) (pt p) && dats (n + 1) (l.map pt)) = true; rw [dats_pts n l]; rfl
theorem dats_ints (n : Nat) : ∀ l : List Int, dats n (l.map T.int) = true
  | [] => by cases n <;> rfl
  | p :: l => by rw [List.map_cons]; show (dat n (.int p) && dats n (l.map T.int)) = true; rw [dats_ints n l]; cases n <;> rfl
theorem dat_pts (n : Nat) (l : List P2) : dat (n + 2) (.lst (l.map pt)) = true := dats_pts n l
theorem dat_ints (n : Nat) (l : List Int) : dat (n + 1) (.lst (l.map T.int)) = true := dats_ints n l
theorem beq_dec (i j : Int) : (i == j) = decide (i = j) := by
  by_cases h : i = j
  · subst h; simp
  · simp [h]
theorem teq_int (i j : Int) : teq (.int i) (.int j) = decide (i = j) := by
  simp only [teq, toD, PySem.PyData.eqv]
  exact beq_dec i j
theorem teq_pt (p q : P2) : teq (pt p) (pt q) = decide (p = q) := by
  obtain ⟨a, b⟩ := p
  obtain ⟨c, d⟩ := q
  simp [teq, toD, toDs, pt, PySem.PyData.eqv, PySem.PyData.eqvAll, beq_dec]
theorem teq_lst {α : Type} [DecidableEq α] (f : α → T) (h : ∀ a b, teq (f a) (f b) = decide (a = b)) : ∀ l m : List α, teq (.lst (l.map f)) (.lst (m.map f)) = decide (l = m)
  | [], [] => by simp [teq, toD, toDs, PySem.PyData.eqv, PySem.PyData.eqvAll]
  | [], b :: m => by simp [teq, toD, toDs, PySem.PyData.eqv, PySem.PyData.eqvAll]
  | a :: l, [] => by simp [teq, toD, toDs, PySem.PyData.eqv, PySem.PyData.eqvAll]
  | a :: l, b :: m => by
    have ih := teq_lst f h l m
    have ha := h a b
    simp only [teq, toD, PySem.PyData.eqv] at ih
    simp only [teq] at ha
    simp only [teq, toD, toDs, List.map_cons, PySem.PyData.eqv, PySem.PyData.eqvAll, ih, ha]
    by_cases h1 : a = b <;> by_cases h2 : l = m <;> simp [h1, h2]
theorem teq_pts (l m : List P2) : teq (.lst (l.map pt)) (.lst (m.map pt)) = decide (l = m) := teq_lst pt teq_pt l m
theorem teq_ints (l m : List Int) : teq (.lst (l.map T.int)) (.lst (m.map T.int)) = decide (l = m) := teq_lst T.int teq_int l m
/-- one turn of a comprehension -/
def lcE (b : T → Option Env) (c : Env → Option T) (e : Env → Option T) (t : T) : Option (Option T) := (b t).bind fun env => (c env).bind fun q => match q with
  | .bl true => (e env).map some
  | .bl false => some none
  | _ => none
def consO (o : Option T) (us : List T) : List T := match o with
  | some u => u :: us
  | none => us
theorem lcL_cons {b : T → Option Env} {c e : Env → Option T} {t : T} {ts : List T} {o : Option T} (h : lcE b c e t = some o) : lcL b c e (t :: ts) = (lcL b c e ts).map (consO o) := by
  unfold lcE at h
  obtain ⟨env, h1, h⟩ := bind1 h
  obtain ⟨q, h2, h⟩ := bind1 h
  rw [lcL, h1, Option.bind_some, h2, Option.bind_some]
  cases q with
  | bl k =>
    cases k with
    | true =>
      obtain ⟨u, h3, rfl⟩ := map1 h
      simp only [h3, Option.bind_some]
      rfl
    | false =>
      cases h
      show lcL b c e ts = (lcL b c e ts).map fun us => us
      rw [Option.map_id']
  | _ => cases h
theorem lcL_if {α : Type} {b : T → Option Env} {c e : Env → Option T} {l : List α} {f : α → T} (p : α → Bool) (g : α → T) (h : ∀ a ∈ l, lcE b c e (f a) = some (if p a then some (g a) else none)) : lcL b c e (l.map f) = some ((l.filter p).map g) := by
  induction l with
  | nil => rfl
  | cons a l ih =>
    rw [List.map_cons, lcL_cons (h a List.mem_cons_self), ih fun x hx => h x (List.mem_cons_of_mem _ hx), List.filter_cons]
    cases p a <;> rfl
theorem lcL_all {α : Type} {b : T → Option Env} {c e : Env → Option T} {l : List α} {f : α → T} (g : α → T) (h : ∀ a ∈ l, lcE b c e (f a) = some (some (g a))) : lcL b c e (l.map f) = some (l.map g) := by
  induction l with
  | nil => rfl
  | cons a l ih =>
    rw [List.map_cons, lcL_cons (h a List.mem_cons_self), ih fun x hx => h x (List.mem_cons_of_mem _ hx)]
    rfl
theorem asInts_map (l : List Int) : asInts (l.map T.int) = some l := by
  induction l with
  | nil => rfl
  | cons a l ih => rw [List.map_cons]; show (asInts (l.map T.int)).map (a :: ·) = _; rw [ih]; rfl
theorem asInts_mapf {α : Type} (f : α → Int) (l : List α) : asInts (l.map fun a => T.int (f a)) = some (l.map f) := by
  have : (l.map fun a => T.int (f a)) = (l.map f).map T.int := by rw [List.map_map]; rfl
  rw [this, asInts_map]
theorem asBls_mapf {α : Type} (f : α → Bool) (l : List α) : asBls (l.map fun a => T.bl (f a)) = some (l.map f) := by
  induction l with
  | nil => rfl
  | cons a l ih => rw [List.map_cons]; show (asBls (l.map fun a => T.bl (f a))).map (f a :: ·) = _; rw [ih]; rfl
/-- small numbers: no product of two of them is too large -/
def Sm (i : Int) : Prop := i.natAbs.log2 < 10000000
theorem sm_of {i : Int} (k : Nat) (h : i.natAbs < 2 ^ k) (hk : k ≤ 1000000 := by decide) : Sm i := by
  unfold Sm
  by_cases h0 : i.natAbs = 0
  · rw [h0, Nat.log2_zero]; omega
  · have := (Nat.log2_lt h0).mpr h
    omega
theorem mul_ok {i j : Int} (hi : Sm i) (hj : Sm j) : mulOk i j = true := by
  unfold Sm at hi hj
  unfold mulOk
  exact decide_eq_true (by omega)
theorem sm64 {i : Int} (h : -10000000000000000000 < i) (h2 : i < 10000000000000000000) : Sm i := sm_of 64 (by omega)
end Sb
namespace Sb
theorem cut_from {α : Type} (l : List α) (k : Nat) : cutL l (some (k : Int)) none = l.drop k := by
  unfold cutL
  rw [HT.sIx_nat, HT.sIx_none]
  by_cases h : k ≤ l.length
  · rw [Nat.min_eq_left h, List.take_of_length_le (by rw [List.length_drop]; omega)]
  · rw [Nat.min_eq_right (by omega), List.drop_of_length_le (by omega), List.drop_of_length_le (by omega)]; simp
theorem cut_to {α : Type} (l : List α) (k : Nat) : cutL l none (some (k : Int)) = l.take k := by
  unfold cutL
  rw [HT.sIx_nat, HT.sIx_none, List.drop_zero, Nat.sub_zero]
  by_cases h : k ≤ l.length
  · rw [Nat.min_eq_left h]
  · rw [Nat.min_eq_right (by omega), List.take_of_length_le (by omega), List.take_of_length_le (by omega)]
theorem cut_ft {α : Type} (l : List α) (i j : Nat) : cutL l (some (i : Int)) (some (j : Int)) = (l.drop i).take (j - i) := by
  unfold cutL
  rw [HT.sIx_nat, HT.sIx_nat]
  by_cases h : i ≤ l.length
  · rw [Nat.min_eq_left h]
    by_cases h2 : j ≤ l.length
    · rw [Nat.min_eq_left h2]
    · rw [Nat.min_eq_right (by omega), List.take_of_length_le (by rw [List.length_drop]; omega), List.take_of_length_le (by rw [List.length_drop]; omega)]
  · rw [Nat.min_eq_right (by omega : l.length ≤ i), List.drop_of_length_le (by omega), List.drop_of_length_le (by omega)]; simp
theorem cut_map {α β : Type} (f : α → β) (l : List α) (lo hi : Option Int) : cutL (l.map f) lo hi = (cutL l lo hi).map f := by
  unfold cutL
  rw [List.length_map, ← List.map_drop, ← List.map_take]
theorem cut_1 {α : Type} (l : List α) : cutL l (some 1) none = l.drop 1 := cut_from l 1
theorem zip_map {α β : Type} (f : α → T) (g : β → T) : ∀ (l : List α) (m : List β), zipT (l.map f) (m.map g) = (l.zip m).map fun p => .tup [f p.1, g p.2]
  | [], m => by simp [zipT]
  | a :: l, [] => by simp [zipT]
  | a :: l, b :: m => by simp [zipT, zip_map f g l m]
theorem enum_map {α : Type} (f : α → T) : ∀ (k : Nat) (l : List α), enumT k (l.map f) = ((l.zipIdx k).map fun p => .tup [.int (p.2 : Int), f p.1])
  | _, [] => by simp [enumT]
  | k, a :: l => by simp [enumT, enum_map f (k + 1) l]
theorem rng_map (a b : Int) : rngT a b = (List.range (b - a).toNat).map fun (i : Nat) => T.int (a + (i : Int)) := rfl
/-- a loop that runs through -/
theorem forL_inv {α : Type} {b : T → Env → Option Env} {f : Env → Option Out} {g : α → T} (I : List α → Env → Prop) {l : List α} {env : Env} (h0 : I [] env)
    (step : ∀ pre x post env, l = pre ++ x :: post → I pre env → ∃ env1 env2, b (g x) env = some env1 ∧ f env1 = some (.nx env2) ∧ I (pre ++ [x]) env2) :
    ∃ env', forL b f (l.map g) env = some (.nx env') ∧ I l env' := by
  have key : ∀ (post pre : List α) (env : Env), l = pre ++ post → I pre env → ∃ env', forL b f (post.map g) env = some (.nx env') ∧ I l env' := by
    intro post
    induction post with
    | nil =>
      intro pre env e h
      rw [List.append_nil] at e
      subst e
      exact ⟨env, rfl, h⟩
    | cons x post ih =>
      intro pre env e h
      obtain ⟨env1, env2, h1, h2, h3⟩ := step pre x post env e h
      obtain ⟨env', h4, h5⟩ := ih (pre ++ [x]) env2 (by rw [e]; simp) h3
      refine ⟨env', ?_, h5⟩
      rw [List.map_cons, forL, h1, Option.bind_some, h2, Option.bind_some]
      exact h4
  exact key l [] env rfl h0
/-- a loop that may end in a return -/
theorem forL_ret {α : Type} {b : T → Env → Option Env} {f : Env → Option Out} {g : α → T} (I : List α → Env → Prop) (Rt : T → Prop) {l : List α} {env : Env} (h0 : I [] env)
    (step : ∀ pre x post env, l = pre ++ x :: post → I pre env → ∃ env1, b (g x) env = some env1 ∧ ((∃ env2, f env1 = some (.nx env2) ∧ I (pre ++ [x]) env2) ∨ ∃ t, f env1 = some (.rt t) ∧ Rt t)) :
    (∃ env', forL b f (l.map g) env = some (.nx env') ∧ I l env') ∨ ∃ t, forL b f (l.map g) env = some (.rt t) ∧ Rt t := by
  have key : ∀ (post pre : List α) (env : Env), l = pre ++ post → I pre env → (∃ env', forL b f (post.map g) env = some (.nx env') ∧ I l env') ∨ ∃ t, forL b f (post.map g) env = some (.rt t) ∧ Rt t := by
    intro post
    induction post with
    | nil =>
      intro pre env e h
      rw [List.append_nil] at e
      subst e
      exact .inl ⟨env, rfl, h⟩
    | cons x post ih =>
      intro pre env e h
      obtain ⟨env1, h1, h2 | ⟨t, h2, h3⟩⟩ := step pre x post env e h
      · obtain ⟨env2, h2, h3⟩ := h2
        have := ih (pre ++ [x]) env2 (by rw [e]; simp) h3
        rw [List.map_cons, forL, h1, Option.bind_some, h2, Option.bind_some]
        exact this
      · refine .inr ⟨t, ?_, h3⟩
        rw [List.map_cons, forL, h1, Option.bind_some, h2, Option.bind_some]
  exact key l [] env rfl h0
section
variable {gv : Nat → Option Int} {Φ : Nat → List T → Option R} {W : Nat}
theorem execs_nx {s : S} {r : SL} {env env2 : Env} {o : Out} (h1 : exec gv Φ W s env = some (.nx env2)) (h2 : execs gv Φ W r env2 = some o) : execs gv Φ W (.cons s r) env = some o := by
  rw [execs, h1, Option.bind_some]; exact h2
theorem execs_rt {s : S} {r : SL} {env : Env} {t : T} (h1 : exec gv Φ W s env = some (.rt t)) : execs gv Φ W (.cons s r) env = some (.rt t) := by
  rw [execs, h1, Option.bind_some]
theorem execs_ex {s : S} {r : SL} {env : Env} {c : Nat} (h1 : exec gv Φ W s env = some (.ex c)) : execs gv Φ W (.cons s r) env = some (.ex c) := by
  rw [execs, h1, Option.bind_some]
theorem runD_of {d : Df} {ts : List T} {o : Out} {r : R} (hl : ts.length = d.np) (h : execs gv Φ W d.body (ts.map some ++ List.replicate (d.ns - d.np) none) = some o) (ho : o.res = r) : runD gv Φ W d ts = some r := by
  unfold runD
  rw [if_pos hl, h, Option.map_some, ho]
end
section
variable {gv : Nat → Option Int} {Φ : Nat → List T → Option R} {W : Nat}
theorem execs_for {α : Type} {tg : Tg} {it : It} {b r : SL} {env : Env} {o : Out} (l : List α) (g : α → T) (I : List α → Env → Prop) (hit : evi gv Φ it env = some (l.map g)) (h0 : I [] env)
    (step : ∀ pre x post env, l = pre ++ x :: post → I pre env → ∃ env1 env2, bindT tg (g x) env = some env1 ∧ execs gv Φ W b env1 = some (.nx env2) ∧ I (pre ++ [x]) env2)
    (k : ∀ env', I l env' → execs gv Φ W r env' = some o) : execs gv Φ W (.cons (.for_ tg it b) r) env = some o := by
  obtain ⟨env', h1, h2⟩ := forL_inv (b := fun t env => bindT tg t env) (f := fun env => execs gv Φ W b env) (g := g) I h0 step
  refine execs_nx (env2 := env') ?_ (k env' h2)
  rw [exec, hit, Option.bind_some]
  exact h1
theorem execs_forR {α : Type} {tg : Tg} {it : It} {b r : SL} {env : Env} {o : Out} (l : List α) (g : α → T) (I : List α → Env → Prop) (hit : evi gv Φ it env = some (l.map g)) (h0 : I [] env)
    (step : ∀ pre x post env, l = pre ++ x :: post → I pre env → ∃ env1, bindT tg (g x) env = some env1 ∧ ((∃ env2, execs gv Φ W b env1 = some (.nx env2) ∧ I (pre ++ [x]) env2) ∨ ∃ t, execs gv Φ W b env1 = some (.rt t) ∧ o = .rt t))
    (k : ∀ env', I l env' → execs gv Φ W r env' = some o) : execs gv Φ W (.cons (.for_ tg it b) r) env = some o := by
  rcases forL_ret (b := fun t env => bindT tg t env) (f := fun env => execs gv Φ W b env) (g := g) I (fun t => o = .rt t) h0 step with ⟨env', h1, h2⟩ | ⟨t, h1, rfl⟩
  · refine execs_nx (env2 := env') ?_ (k env' h2)
    rw [exec, hit, Option.bind_some]
    exact h1
  · refine execs_rt ?_
    rw [exec, hit, Option.bind_some]
    exact h1
end
section
variable {gv : Nat → Option Int} {Φ : Nat → List T → Option R} {W : Nat}
def Runs (gv : Nat → Option Int) (Φ : Nat → List T → Option R) (W : Nat) (b : SL) (env : Env) (P : Env → Prop) : Prop := ∃ env2, execs gv Φ W b env = some (.nx env2) ∧ P env2
theorem runs_nil {env : Env} {P : Env → Prop} (h : P env) : Runs gv Φ W .nil env P := ⟨env, rfl, h⟩
theorem runs_nx {s : S} {r : SL} {env env2 : Env} {P : Env → Prop} (h1 : exec gv Φ W s env = some (.nx env2)) (h2 : Runs gv Φ W r env2 P) : Runs gv Φ W (.cons s r) env P := by
  obtain ⟨e, h3, h4⟩ := h2
  exact ⟨e, execs_nx h1 h3, h4⟩
theorem runs_for {α : Type} {tg : Tg} {it : It} {b r : SL} {env : Env} {P : Env → Prop} (l : List α) (g : α → T) (I : List α → Env → Prop) (hit : evi gv Φ it env = some (l.map g)) (h0 : I [] env)
    (step : ∀ pre x post env, l = pre ++ x :: post → I pre env → ∃ env1, bindT tg (g x) env = some env1 ∧ Runs gv Φ W b env1 (I (pre ++ [x])))
    (k : ∀ env', I l env' → Runs gv Φ W r env' P) : Runs gv Φ W (.cons (.for_ tg it b) r) env P := by
  obtain ⟨env', h1, h2⟩ := forL_inv (b := fun t env => bindT tg t env) (f := fun env => execs gv Φ W b env) (g := g) I h0 (fun pre x post env e h => by
    obtain ⟨env1, h1, env2, h2, h3⟩ := step pre x post env e h
    exact ⟨env1, env2, h1, h2, h3⟩)
  refine runs_nx (env2 := env') ?_ (k env' h2)
  rw [exec, hit, Option.bind_some]
  exact h1
theorem efor {α : Type} {tg : Tg} {it : It} {b r : SL} {env : Env} {o : Out} (l : List α) (g : α → T) (I : List α → Env → Prop) (hit : evi gv Φ it env = some (l.map g)) (h0 : I [] env)
    (step : ∀ pre x post env, l = pre ++ x :: post → I pre env → ∃ env1, bindT tg (g x) env = some env1 ∧ Runs gv Φ W b env1 (I (pre ++ [x])))
    (k : ∀ env', I l env' → execs gv Φ W r env' = some o) : execs gv Φ W (.cons (.for_ tg it b) r) env = some o :=
  execs_for l g I hit h0 (fun pre x post env e h => by
    obtain ⟨env1, h1, env2, h2, h3⟩ := step pre x post env e h
    exact ⟨env1, env2, h1, h2, h3⟩) k
end
section
variable {gv : Nat → Option Int} {Φ : Nat → List T → Option R} {W : Nat} {env : Env}
theorem ev_cat {a b : E} {x y : List T} (h1 : ev gv Φ a env = some (.lst x)) (h2 : ev gv Φ b env = some (.lst y)) (hl : x.length + y.length ≤ LIM) : ev gv Φ (.bin .add a b) env = some (.lst (x ++ y)) := by
  rw [ev, h1, Option.bind_some, h2, Option.bind_some]; exact if_pos hl
theorem ev_lst {es : EL} {ts : List T} (h : evs gv Φ es env = some ts) (hl : ts.length ≤ LIM) : ev gv Φ (.lst es) env = some (.lst ts) := by
  rw [ev, h, Option.bind_some, if_pos hl]
theorem ev_tup {es : EL} {ts : List T} (h : evs gv Φ es env = some ts) (hl : ts.length ≤ LIM) : ev gv Φ (.tup es) env = some (.tup ts) := by
  rw [ev, h, Option.bind_some, if_pos hl]
theorem evs_one {e : E} {t : T} (h : ev gv Φ e env = some t) : evs gv Φ (.cons e .nil) env = some [t] := by
  rw [evs, h, Option.bind_some]; rfl
theorem evs_cons {e : E} {es : EL} {t : T} {ts : List T} (h : ev gv Φ e env = some t) (h2 : evs gv Φ es env = some ts) : evs gv Φ (.cons e es) env = some (t :: ts) := by
  rw [evs, h, Option.bind_some, h2]; rfl
theorem ev_call {f : Nat} {es : EL} {ts : List T} {t : T} (h : evs gv Φ es env = some ts) (hf : Φ f ts = some (.val t)) : ev gv Φ (.call f es) env = some t := by
  rw [ev, h, Option.bind_some, hf]; rfl
theorem ev_blt {b : Bi} {es : EL} {ts : List T} {t : T} (h : evs gv Φ es env = some ts) (hf : bltT b ts = some t) : ev gv Φ (.blt b es) env = some t := by
  rw [ev, h, Option.bind_some, hf]
theorem exec_ret0 {e : E} {t : T} (h : ev gv Φ e env = some t) : exec gv Φ W (.ret 0 (.pure e)) env = some (.rt t) := by
  rw [exec, evx, h]; rfl
theorem exec_ret1 {e : E} {t : T} (h : ev gv Φ e env = some t) (hf : flat t = true) : exec gv Φ W (.ret 1 (.pure e)) env = some (.rt t) := by
  rw [exec, evx, h]
  simp [hf]
theorem exec_ret2 {e : E} {t : T} (h : ev gv Φ e env = some t) (hf : imm t = true) : exec gv Φ W (.ret 2 (.pure e)) env = some (.rt t) := by
  rw [exec, evx, h]
  simp [hf]
theorem exec_retc {m : Nat} {f : Nat} {es : EL} {ts : List T} {t : T} (h : evs gv Φ es env = some ts) (hf : Φ f ts = some (.val t)) (hm : m = 0) : exec gv Φ W (.ret m (.call f es)) env = some (.rt t) := by
  subst hm
  rw [exec, evx, h, Option.bind_some, hf]; rfl
theorem exec_set {i : Nat} {e : E} {t : T} (h : ev gv Φ e env = some t) : exec gv Φ W (.asg (.nm i) e) env = some (.nx (env.set i (some t))) := by
  rw [exec, h]; rfl
theorem exec_exp {f : Nat} {es : EL} {ts : List T} {t : T} (h : evs gv Φ es env = some ts) (hf : Φ f ts = some (.val t)) : exec gv Φ W (.exp (.call f es)) env = some (.nx env) := by
  rw [exec, evx, h, Option.bind_some, hf]; rfl
theorem exec_if {c : E} {a b : SL} {k : Bool} (h : ev gv Φ c env = some (.bl k)) : exec gv Φ W (.iff c a b) env = if k then execs gv Φ W a env else execs gv Φ W b env := by
  rw [exec, h]
  cases k <;> rfl
theorem exec_skip {c : E} {a : SL} (h : ev gv Φ c env = some (.bl false)) : exec gv Φ W (.iff c a .nil) env = some (.nx env) := by
  rw [exec_if h]; rfl
theorem ev_not {a : E} {k : Bool} (h : ev gv Φ a env = some (.bl k)) : ev gv Φ (.not a) env = some (.bl (!k)) := by
  rw [ev, h]; rfl
theorem ev_and {a b : E} {p q : Bool} (h : ev gv Φ a env = some (.bl p)) (h2 : p = true → ev gv Φ b env = some (.bl q)) : ev gv Φ (.and a b) env = some (.bl (p && q)) := by
  rw [ev, h]
  cases p with
  | false => rfl
  | true => simp only [Option.bind_some, h2 rfl]; rfl
theorem ev_or {a b : E} {p q : Bool} (h : ev gv Φ a env = some (.bl p)) (h2 : p = false → ev gv Φ b env = some (.bl q)) : ev gv Φ (.or a b) env = some (.bl (p || q)) := by
  rw [ev, h]
  cases p with
  | true => rfl
  | false => simp only [Option.bind_some, h2 rfl]; rfl
theorem ev_cmp {op : Cop} {a b : E} {x y z : T} (h1 : ev gv Φ a env = some x) (h2 : ev gv Φ b env = some y) (h3 : cmpT op x y = some z) : ev gv Φ (.cmp op a b) env = some z := by
  rw [ev, h1, Option.bind_some, h2, Option.bind_some, h3]
theorem ev_bin {op : Bop} {a b : E} {x y z : T} (h1 : ev gv Φ a env = some x) (h2 : ev gv Φ b env = some y) (h3 : binT op x y = some z) : ev gv Φ (.bin op a b) env = some z := by
  rw [ev, h1, Option.bind_some, h2, Option.bind_some, h3]
theorem ev_sub {a b : E} {x y z : T} (h1 : ev gv Φ a env = some x) (h2 : ev gv Φ b env = some y) (h3 : subT x y = some z) : ev gv Φ (.sub a b) env = some z := by
  rw [ev, h1, Option.bind_some, h2, Option.bind_some, h3]
theorem exec_par {is : List Nat} {es : EL} {ts : List T} (h : evs gv Φ es env = some ts) (hl : ts.length = is.length) : exec gv Φ W (.par is es) env = some (.nx (setAll is ts env)) := by
  rw [exec, h, Option.bind_some, if_pos hl]
theorem ev_ite {c a b : E} {k : Bool} (h : ev gv Φ c env = some (.bl k)) : ev gv Φ (.ite c a b) env = if k then ev gv Φ a env else ev gv Φ b env := by
  rw [ev, h]
  cases k <;> rfl
theorem ev_lc {α : Type} {vs : List Nat} {tg : Tg} {it : It} {e : E} (l : List α) (f g : α → T) (hi : evi gv Φ it env = some (l.map f)) (h : ∀ a ∈ l, ∃ env', bindT tg (f a) (wipeE env vs) = some env' ∧ ev gv Φ e env' = some (g a)) :
    ev gv Φ (.lc vs tg it .no e) env = some (.lst (l.map g)) := by
  rw [ev, hi, Option.bind_some, lcL_all g (fun a ha => by
    obtain ⟨env', h1, h2⟩ := h a ha
    simp only [lcE, h1, Option.bind_some, evc, h2, Option.map_some])]
  rfl
theorem ev_lcif {α : Type} {vs : List Nat} {tg : Tg} {it : It} {c e : E} (l : List α) (f g : α → T) (p : α → Bool) (hi : evi gv Φ it env = some (l.map f)) (h : ∀ a ∈ l, ∃ env', bindT tg (f a) (wipeE env vs) = some env' ∧ ev gv Φ c env' = some (.bl (p a)) ∧ (p a = true → ev gv Φ e env' = some (g a))) :
    ev gv Φ (.lc vs tg it (.so c) e) env = some (.lst ((l.filter p).map g)) := by
  rw [ev, hi, Option.bind_some, lcL_if p g (fun a ha => by
    obtain ⟨env', h1, h2, h3⟩ := h a ha
    simp only [lcE, h1, Option.bind_some, evc, h2]
    cases hp : p a with
    | true => simp only [h3 hp, Option.map_some]; rfl
    | false => rfl)]
  rfl
end
def B (k : Nat) (i : Int) : Prop := i.natAbs < 2 ^ k
theorem B.mono {k m : Nat} {i : Int} (h : B k i) (hk : k ≤ m) : B m i := Nat.lt_of_lt_of_le h (Nat.pow_le_pow_right (by omega) hk)
theorem B.add {k m : Nat} {i j : Int} (hi : B k i) (hj : B m j) : B (max k m + 1) (i + j) := by
  have h1 := hi.mono (Nat.le_max_left k m)
  have h2 := hj.mono (Nat.le_max_right k m)
  unfold B at *
  rw [Nat.pow_succ]
  omega
theorem B.sub {k m : Nat} {i j : Int} (hi : B k i) (hj : B m j) : B (max k m + 1) (i - j) := by
  have h1 := hi.mono (Nat.le_max_left k m)
  have h2 := hj.mono (Nat.le_max_right k m)
  unfold B at *
  rw [Nat.pow_succ]
  omega
theorem B.mul {k m : Nat} {i j : Int} (hi : B k i) (hj : B m j) : B (k + m) (i * j) := by
  unfold B at *
  rw [Int.natAbs_mul, Nat.pow_add]
  exact Nat.mul_lt_mul'' hi hj
theorem B.sm {k : Nat} {i : Int} (h : B k i) (hk : k < 10000000) : Sm i := by
  unfold Sm
  unfold B at h
  by_cases h0 : i.natAbs = 0
  · rw [h0, Nat.log2_zero]; omega
  · have := (Nat.log2_lt h0).mpr h
    omega
theorem B.of {i : Int} (k : Nat) (h : i.natAbs < 2 ^ k := by decide) : B k i := h
theorem sm_add {i j : Int} (hi : ∃ k, k < 9000000 ∧ B k i) : True := trivial
theorem B.sum {k m : Nat} : ∀ {l : List Int}, (∀ i ∈ l, B k i) → l.length ≤ 2 ^ m → B (k + m) l.sum := by
  have key : ∀ {l : List Int}, (∀ i ∈ l, B k i) → l.sum.natAbs ≤ l.length * (2 ^ k - 1) := by
    intro l
    induction l with
    | nil => intro _; simp
    | cons a l ih =>
      intro h
      have h1 : a.natAbs < 2 ^ k := h a List.mem_cons_self
      have h2 := ih fun i hi => h i (List.mem_cons_of_mem _ hi)
      rw [List.sum_cons, List.length_cons, Nat.succ_mul]
      omega
  intro l h hl
  have h1 := key h
  have hp : 0 < 2 ^ k := Nat.pow_pos (by omega)
  have hm : 0 < 2 ^ m := Nat.pow_pos (by omega)
  unfold B
  rw [Nat.pow_add]
  have h2 : l.length * (2 ^ k - 1) ≤ 2 ^ m * (2 ^ k - 1) := Nat.mul_le_mul_right _ hl
  have h3 : 2 ^ m * (2 ^ k - 1) < 2 ^ m * 2 ^ k := Nat.mul_lt_mul_of_pos_left (by omega) hm
  rw [Nat.mul_comm (2 ^ k)]
  omega
theorem bits_B {z : Int} (h : PySem.Builtin.Int.intBits z ≤ 1048576) : B 1048576 z := by
  unfold B
  by_cases h0 : z.natAbs = 0
  · rw [h0]; exact Nat.pow_pos (by omega)
  · refine (Nat.log2_lt h0).mp ?_
    unfold PySem.Builtin.Int.intBits at h
    split at h
    · rename_i q
      exact absurd (by simpa using q) h0
    · omega
end Sb
namespace Sb
def spn (a b : P2) : Int := a.1 * b.2 - a.2 * b.1
def std (a : P2) : Bool := decide (0 < a.2) || (decide (a.2 = 0) && decide (0 < a.1))
def near (a : P2) : Bool := (decide (-20 ≤ a.1) && decide (a.1 ≤ 20)) && (decide (-20 ≤ a.2) && decide (a.2 ≤ 20))
def sumP (l : List P2) : P2 := ((l.map (·.1)).sum, (l.map (·.2)).sum)
class HasG (gv : Nat → Option Int) (i : Nat) (v : outParam Int) : Prop where
  eq : gv i = some v
def SmP (a : P2) : Prop := Sm a.1 ∧ Sm a.2
section
variable {gv : Nat → Option Int} {D : Nat → Option Df} {W n : Nat}
theorem is_whole_int [Has D i_is_whole d_is_whole] (i : Int) : Phi gv D W (n + 1) i_is_whole [.int i] = some (.val (.bl true)) := by
  rw [phi_one]; rfl
theorem is_pair_pt [Has D i_is_whole d_is_whole] [Has D i_is_pair d_is_pair] (p : P2) : Phi gv D W (n + 2) i_is_pair [pt p] = some (.val (.bl true)) := by
  have h1 : isiT .tuple (pt p) = some true := rfl
  have h2 : bltT .len [pt p] = some (.int 2) := rfl
  have h3 : dat 60 (.int 2) = true := rfl
  rw [phi_one]
  simp only [runD, execs, exec, evx, ev, evs, evo, evc, evi, List.length_cons, List.length_nil, List.map_cons, List.map_nil, List.cons_append, List.nil_append, List.replicate, List.getElem?_cons_zero, List.getElem?_cons_succ, Option.join_some, Option.bind_some, Option.map_some, sub_pt0, sub_pt1, binT, cmpT, isB, if_true, if_false, Out.res, bindT, setAll, wipeE, List.set_cons_zero, List.set_cons_succ, slot, seqT, Nat.reduceAdd, Nat.reduceSub, Nat.sub_self, Nat.zero_add, R.ok, R.st, Bool.not_true, Bool.not_false, Bool.false_eq_true, Nat.reduceEqDiff, Nat.add_eq, Nat.add_zero, Nat.one_ne_zero, Int.reduceLT, Int.reduceLE, Int.reduceToNat, Int.reduceNeg, and_self, true_and, and_true, decide_true, d_is_pair, h1, h2, h3, is_whole_int, teq_int, Bool.and_self, decide_true]
theorem span_pt [Has D i_span d_span] {a b : P2} (ha : SmP a) (hb : SmP b) : Phi gv D W (n + 1) i_span [pt a, pt b] = some (.val (.int (spn a b))) := by
  rw [phi_one]
  simp only [runD, execs, exec, evx, ev, evs, evo, evc, evi, List.length_cons, List.length_nil, List.map_cons, List.map_nil, List.cons_append, List.nil_append, List.replicate, List.getElem?_cons_zero, List.getElem?_cons_succ, Option.join_some, Option.bind_some, Option.map_some, sub_pt0, sub_pt1, binT, cmpT, isB, if_true, if_false, Out.res, bindT, setAll, wipeE, List.set_cons_zero, List.set_cons_succ, slot, seqT, Nat.reduceAdd, Nat.reduceSub, Nat.sub_self, Nat.zero_add, R.ok, R.st, Bool.not_true, Bool.not_false, Bool.false_eq_true, Nat.reduceEqDiff, Nat.add_eq, Nat.add_zero, Nat.one_ne_zero, Int.reduceLT, Int.reduceLE, Int.reduceToNat, Int.reduceNeg, and_self, true_and, and_true, decide_true, d_span, mul_ok ha.1 hb.2, mul_ok ha.2 hb.1, spn]
theorem stands_pt [Has D i_stands d_stands] (a : P2) : Phi gv D W (n + 1) i_stands [pt a] = some (.val (.bl (std a))) := by
  have h3 : dat 60 (.int a.2) = true := rfl
  have h4 : dat 60 (.int 0) = true := rfl
  rw [phi_one]
  simp only [runD, execs, exec, evx, ev, evs, evo, evc, evi, List.length_cons, List.length_nil, List.map_cons, List.map_nil, List.cons_append, List.nil_append, List.replicate, List.getElem?_cons_zero, List.getElem?_cons_succ, Option.join_some, Option.bind_some, Option.map_some, sub_pt0, sub_pt1, binT, cmpT, isB, if_true, if_false, Out.res, bindT, setAll, wipeE, List.set_cons_zero, List.set_cons_succ, slot, seqT, Nat.reduceAdd, Nat.reduceSub, Nat.sub_self, Nat.zero_add, R.ok, R.st, Bool.not_true, Bool.not_false, Bool.false_eq_true, Nat.reduceEqDiff, Nat.add_eq, Nat.add_zero, Nat.one_ne_zero, Int.reduceLT, Int.reduceLE, Int.reduceToNat, Int.reduceNeg, and_self, true_and, and_true, decide_true, d_stands, h3, h4, teq_int, Bool.and_self, std]
  generalize decide (0 < a.2) = x
  generalize decide (a.2 = 0) = y
  generalize decide (0 < a.1) = z
  cases x <;> cases y <;> cases z <;> rfl
theorem is_near_pt [HasG gv 1 20] [Has D i_is_near d_is_near] (a : P2) : Phi gv D W (n + 1) i_is_near [pt a] = some (.val (.bl (near a))) := by
  have hg : gv 1 = some 20 := HasG.eq
  rw [phi_one]
  simp only [runD, execs, exec, evx, ev, evs, evo, evc, evi, List.length_cons, List.length_nil, List.map_cons, List.map_nil, List.cons_append, List.nil_append, List.replicate, List.getElem?_cons_zero, List.getElem?_cons_succ, Option.join_some, Option.bind_some, Option.map_some, sub_pt0, sub_pt1, binT, cmpT, isB, if_true, if_false, Out.res, bindT, setAll, wipeE, List.set_cons_zero, List.set_cons_succ, slot, seqT, Nat.reduceAdd, Nat.reduceSub, Nat.sub_self, Nat.zero_add, R.ok, R.st, Bool.not_true, Bool.not_false, Bool.false_eq_true, Nat.reduceEqDiff, Nat.add_eq, Nat.add_zero, Nat.one_ne_zero, Int.reduceLT, Int.reduceLE, Int.reduceToNat, Int.reduceNeg, and_self, true_and, and_true, decide_true, d_is_near, hg, near]
  generalize decide (-20 ≤ a.1) = x
  generalize decide (a.1 ≤ 20) = y
  generalize decide (-20 ≤ a.2) = z
  generalize decide (a.2 ≤ 20) = u
  cases x <;> cases y <;> cases z <;> cases u <;> rfl
theorem added_pts [Has D i_added d_added] (l : List P2) : Phi gv D W (n + 1) i_added [.lst (l.map pt)] = some (.val (pt (sumP l))) := by
  rw [phi_one]
  simp only [runD, execs, exec, evx, ev, evs, evo, evc, evi, List.length_cons, List.length_nil, List.map_cons, List.map_nil, List.cons_append, List.nil_append, List.replicate, List.getElem?_cons_zero, List.getElem?_cons_succ, Option.join_some, Option.bind_some, Option.map_some, sub_pt0, sub_pt1, binT, cmpT, isB, if_true, if_false, Out.res, bindT, setAll, wipeE, List.set_cons_zero, List.set_cons_succ, slot, seqT, Nat.reduceAdd, Nat.reduceSub, Nat.sub_self, Nat.zero_add, R.ok, R.st, Bool.not_true, Bool.not_false, Bool.false_eq_true, Nat.reduceEqDiff, Nat.add_eq, Nat.add_zero, Nat.one_ne_zero, Int.reduceLT, Int.reduceLE, Int.reduceToNat, Int.reduceNeg, and_self, true_and, and_true, decide_true, d_added]
  rw [lcL_all (fun a : P2 => T.int a.1) (fun a _ => by simp only [lcE, runD, execs, exec, evx, ev, evs, evo, evc, evi, List.length_cons, List.length_nil, List.map_cons, List.map_nil, List.cons_append, List.nil_append, List.replicate, List.getElem?_cons_zero, List.getElem?_cons_succ, Option.join_some, Option.bind_some, Option.map_some, sub_pt0, sub_pt1, binT, cmpT, isB, if_true, if_false, Out.res, bindT, setAll, wipeE, List.set_cons_zero, List.set_cons_succ, slot, seqT, Nat.reduceAdd, Nat.reduceSub, Nat.sub_self, Nat.zero_add, R.ok, R.st, Bool.not_true, Bool.not_false, Bool.false_eq_true, Nat.reduceEqDiff, Nat.add_eq, Nat.add_zero, Nat.one_ne_zero, Int.reduceLT, Int.reduceLE, Int.reduceToNat, Int.reduceNeg, and_self, true_and, and_true, decide_true])]
  simp only [runD, execs, exec, evx, ev, evs, evo, evc, evi, List.length_cons, List.length_nil, List.map_cons, List.map_nil, List.cons_append, List.nil_append, List.replicate, List.getElem?_cons_zero, List.getElem?_cons_succ, Option.join_some, Option.bind_some, Option.map_some, sub_pt0, sub_pt1, binT, cmpT, isB, if_true, if_false, Out.res, bindT, setAll, wipeE, List.set_cons_zero, List.set_cons_succ, slot, seqT, Nat.reduceAdd, Nat.reduceSub, Nat.sub_self, Nat.zero_add, R.ok, R.st, Bool.not_true, Bool.not_false, Bool.false_eq_true, Nat.reduceEqDiff, Nat.add_eq, Nat.add_zero, Nat.one_ne_zero, Int.reduceLT, Int.reduceLE, Int.reduceToNat, Int.reduceNeg, and_self, true_and, and_true, decide_true]
  rw [lcL_all (fun a : P2 => T.int a.2) (fun a _ => by simp only [lcE, runD, execs, exec, evx, ev, evs, evo, evc, evi, List.length_cons, List.length_nil, List.map_cons, List.map_nil, List.cons_append, List.nil_append, List.replicate, List.getElem?_cons_zero, List.getElem?_cons_succ, Option.join_some, Option.bind_some, Option.map_some, sub_pt0, sub_pt1, binT, cmpT, isB, if_true, if_false, Out.res, bindT, setAll, wipeE, List.set_cons_zero, List.set_cons_succ, slot, seqT, Nat.reduceAdd, Nat.reduceSub, Nat.sub_self, Nat.zero_add, R.ok, R.st, Bool.not_true, Bool.not_false, Bool.false_eq_true, Nat.reduceEqDiff, Nat.add_eq, Nat.add_zero, Nat.one_ne_zero, Int.reduceLT, Int.reduceLE, Int.reduceToNat, Int.reduceNeg, and_self, true_and, and_true, decide_true])]
  simp only [runD, execs, exec, evx, ev, evs, evo, evc, evi, List.length_cons, List.length_nil, List.map_cons, List.map_nil, List.cons_append, List.nil_append, List.replicate, List.getElem?_cons_zero, List.getElem?_cons_succ, Option.join_some, Option.bind_some, Option.map_some, sub_pt0, sub_pt1, binT, cmpT, isB, if_true, if_false, Out.res, bindT, setAll, wipeE, List.set_cons_zero, List.set_cons_succ, slot, seqT, Nat.reduceAdd, Nat.reduceSub, Nat.sub_self, Nat.zero_add, R.ok, R.st, Bool.not_true, Bool.not_false, Bool.false_eq_true, Nat.reduceEqDiff, Nat.add_eq, Nat.add_zero, Nat.one_ne_zero, Int.reduceLT, Int.reduceLE, Int.reduceToNat, Int.reduceNeg, and_self, true_and, and_true, decide_true, bltT, asInts_mapf]
  simp [LIM, flat, imm, imms, pt, sumP]
  rfl
end
end Sb
namespace Sb
def lnum (cell at_ whole : Int) : Int :=
  if 1000000000000000000 ≤ cell then cell else
  let mixed := ((cell + 977 * at_) * 48271 + whole) % 2147483647
  let more := mixed * (mixed + 31 * at_ + 7) * (mixed + cell + 5)
  more * (more + 48271) / 1009
def lpair (num far : Int) : P2 :=
  let x := num % (2 * far + 1) - far
  let y := num / 41 % (far + 1)
  if y = 0 then (1 + (if x < 0 then -x else x) % far, y) else (x, y)
theorem pow18 : binT .pow (.int 10) (.int 18) = some (.int 1000000000000000000) := rfl
theorem fdivK {k : Int} (i : Int) (h : 0 < k ∧ k.natAbs.log2 < 9000) : binT .fdiv (.int i) (.int k) = some (.int (i / k)) := if_pos h
theorem modK {k : Int} (i : Int) (h : 0 < k) : binT .mod (.int i) (.int k) = some (.int (i % k)) := if_pos h
theorem mulK {i j : Int} (hi : Sm i) (hj : Sm j) : binT .mul (.int i) (.int j) = some (.int (i * j)) := if_pos (mul_ok hi hj)
theorem addI (i j : Int) : binT .add (.int i) (.int j) = some (.int (i + j)) := rfl
theorem subI (i j : Int) : binT .sub (.int i) (.int j) = some (.int (i - j)) := rfl
theorem mod_B {i : Int} {k : Int} {m : Nat} (h0 : 0 < k) (h : k.natAbs ≤ 2 ^ m) : B m (i % k) := by
  have h1 := Int.emod_nonneg i (by omega : k ≠ 0)
  have h2 := Int.emod_lt_of_pos i h0
  unfold B
  omega
theorem div_B {i k : Int} {m : Nat} (h : B m i) (hk : 0 < k) : B m (i / k) := by
  unfold B at *
  have : (i / k).natAbs ≤ i.natAbs := Int.natAbs_ediv_le_natAbs i k
  omega
section
variable {gv : Nat → Option Int} {D : Nat → Option Df} {W n : Nat}
theorem law_number_ok [Has D i_law_number d_law_number] {c a w : Int} (hc : B 1048600 c) (ha : B 20 a) (hw : B 1048600 w) : Phi gv D W (n + 1) i_law_number [.int c, .int a, .int w] = some (.val (.int (lnum c a w))) := by
  rw [phi_one]
  have b0 : ∀ {k : Nat} {i : Int}, B k i → k < 9000000 → Sm i := fun h hk => h.sm (by omega)
  have m1 : binT .mul (.int 977) (.int a) = some (.int (977 * a)) := mulK ((B.of 10).sm (by decide)) (b0 ha (by decide))
  have h1 : B 1048602 (c + 977 * a) := (hc.add ((B.of 10 : B 10 977).mul ha)).mono (by decide)
  have m2 : binT .mul (.int (c + 977 * a)) (.int 48271) = some (.int ((c + 977 * a) * 48271)) := mulK (b0 h1 (by decide)) ((B.of 16).sm (by decide))
  have m3 := modK (k := 2147483647) ((c + 977 * a) * 48271 + w) (by decide)
  have h2 : B 31 (((c + 977 * a) * 48271 + w) % 2147483647) := mod_B (by decide) (by decide)
  have m4 : binT .mul (.int 31) (.int a) = some (.int (31 * a)) := mulK ((B.of 5).sm (by decide)) (b0 ha (by decide))
  simp only [runD, d_law_number, execs, exec, evx, ev, List.length_cons, List.length_nil, List.map_cons, List.map_nil, List.cons_append, List.nil_append, List.replicate, List.getElem?_cons_zero, List.getElem?_cons_succ, Option.join_some, Option.bind_some, Option.map_some, pow18, cmpT, m1, addI, m2, m3, bindT, List.set_cons_zero, List.set_cons_succ, m4, if_true, Nat.reduceAdd, Nat.reduceSub, Nat.zero_add]
  unfold lnum
  by_cases hq : 1000000000000000000 ≤ c
  · rw [if_pos hq, decide_eq_true hq]
    rfl
  · rw [if_neg hq, decide_eq_false hq]
    simp only [execs, exec, evx, ev, Option.bind_some, List.getElem?_cons_zero, List.getElem?_cons_succ, Option.join_some, addI, m1, m2, m3, m4, Option.map_some, List.set_cons_zero, List.set_cons_succ, bindT]
    generalize ((c + 977 * a) * 48271 + w) % 2147483647 = x at h2 ⊢
    have h3 : B 40 (x + 31 * a + 7) := ((h2.add ((B.of 5 : B 5 31).mul ha)).add (B.of 3 : B 3 7)).mono (by decide)
    have m5 : binT .mul (.int x) (.int (x + 31 * a + 7)) = some (.int (x * (x + 31 * a + 7))) := mulK (b0 h2 (by decide)) (b0 h3 (by decide))
    have h4 : B 1048603 (x + c + 5) := ((h2.add hc).add (B.of 3 : B 3 5)).mono (by decide)
    have m6 : binT .mul (.int (x * (x + 31 * a + 7))) (.int (x + c + 5)) = some (.int (x * (x + 31 * a + 7) * (x + c + 5))) := mulK (b0 (h2.mul h3) (by decide)) (b0 h4 (by decide))
    have h5 := (h2.mul h3).mul h4
    simp only [execs, exec, evx, ev, Option.bind_some, List.getElem?_cons_zero, List.getElem?_cons_succ, Option.join_some, addI, m5, m6, Option.map_some, List.set_cons_zero, List.set_cons_succ, bindT]
    generalize x * (x + 31 * a + 7) * (x + c + 5) = y at h5 ⊢
    have h6 := h5.add (B.of 16 : B 16 48271)
    have m7 : binT .mul (.int y) (.int (y + 48271)) = some (.int (y * (y + 48271))) := mulK (b0 h5 (by decide)) (b0 h6 (by decide))
    simp only [m7, Option.bind_some, fdivK (k := 1009) _ (by decide)]
    rfl
theorem lnum_B {c a w : Int} (hc : B 1048600 c) (ha : B 20 a) (hw : B 1048600 w) : B 2100000 (lnum c a w) := by
  unfold lnum
  by_cases hq : 1000000000000000000 ≤ c
  · rw [if_pos hq]; exact hc.mono (by decide)
  · rw [if_neg hq]
    have h2 : B 31 (((c + 977 * a) * 48271 + w) % 2147483647) := mod_B (by decide) (by decide)
    simp only []
    generalize ((c + 977 * a) * 48271 + w) % 2147483647 = x at h2 ⊢
    have h3 : B 40 (x + 31 * a + 7) := ((h2.add ((B.of 5 : B 5 31).mul ha)).add (B.of 3 : B 3 7)).mono (by decide)
    have h4 : B 1048603 (x + c + 5) := ((h2.add hc).add (B.of 3 : B 3 5)).mono (by decide)
    have h5 := (h2.mul h3).mul h4
    exact (div_B (h5.mul (h5.add (B.of 16 : B 16 48271))) (by decide)).mono (by decide)
end
end Sb
namespace Sb
def lcells (d : Int) (ns : List Int) : List Int := if ns = [] then [d] else ns.take 63
def cellAt (cells : List Int) (i : Int) : Int := cells.getD (i % (cells.length : Int)).toNat 0
def stk (cells : List Int) (by_ whole far : Int) (at_ : Nat) : P2 := lpair (lnum (cellAt cells ((at_ : Int) + by_)) ((at_ : Int) + by_) whole / 3) far
def insS (found : List P2) (s : P2) : List P2 :=
  if found.any (fun o => decide (spn o s = 0)) then found else
  found.take (found.filter fun o => decide (0 < spn o s)).length ++ s :: found.drop (found.filter fun o => decide (0 < spn o s)).length
def lsticks (ns : List Int) (by_ most far : Int) : List P2 :=
  (List.range (1 + ((lcells 5 ns).sum + by_) % most).toNat).foldl (fun f (at_ : Nat) => insS f (stk (lcells 5 ns) by_ ((lcells 5 ns).sum + by_) far at_)) []
theorem lcells_ne (d : Int) (ns : List Int) : lcells d ns ≠ [] := by
  unfold lcells
  by_cases h : ns = []
  · rw [if_pos h]; simp
  · rw [if_neg h]
    cases ns with
    | nil => exact absurd rfl h
    | cons a l => simp
theorem lcells_len (d : Int) (ns : List Int) : (lcells d ns).length ≤ 63 := by
  unfold lcells
  split
  · simp
  · rw [List.length_take]; omega
theorem lcells_B {d : Int} {ns : List Int} (hd : B 1048576 d) (h : ∀ z ∈ ns, B 1048576 z) : ∀ z ∈ lcells d ns, B 1048576 z := by
  unfold lcells
  split
  · intro z hz; rw [List.mem_singleton] at hz; subst hz; exact hd
  · intro z hz; exact h z (List.mem_of_mem_take hz)
theorem cellAt_mem {cells : List Int} (h : cells ≠ []) (i : Int) : cellAt cells i ∈ cells ∧ L2.atI cells (i % (cells.length : Int)) = some (cellAt cells i) := by
  have hl : 0 < (cells.length : Int) := by
    cases cells with
    | nil => exact absurd rfl h
    | cons a l => simp
  have h1 := Int.emod_nonneg i (by omega : (cells.length : Int) ≠ 0)
  have h2 := Int.emod_lt_of_pos i hl
  have h3 : (i % (cells.length : Int)).toNat < cells.length := by omega
  have h4 : cellAt cells i = cells[(i % (cells.length : Int)).toNat] := by
    unfold cellAt
    rw [List.getD_eq_getElem?_getD, List.getElem?_eq_getElem h3]; rfl
  refine ⟨by rw [h4]; exact List.getElem_mem h3, ?_⟩
  have e : i % (cells.length : Int) = ((i % (cells.length : Int)).toNat : Int) := by omega
  rw [e, atI_nat, List.getElem?_eq_getElem h3, h4]
theorem teq_scr (ns : List Int) : teq (.scr ns) (.lst []) = decide (ns = []) := by
  cases ns <;> simp [teq, toD, toDs, PySem.PyData.eqv, PySem.PyData.eqvAll]
theorem atI_map {α β : Type} (f : α → β) (l : List α) (i : Int) : L2.atI (l.map f) i = (L2.atI l i).map f := by
  unfold L2.atI
  rw [List.length_map]
  cases L2.ixN l.length i with
  | none => rfl
  | some j => simp
section
variable {gv : Nat → Option Int} {D : Nat → Option Df} {W n : Nat}
theorem law_span_pt [Has D i_law_span d_law_span] {a b : P2} (ha : SmP a) (hb : SmP b) : Phi gv D W (n + 1) i_law_span [pt a, pt b] = some (.val (.int (spn a b))) := by
  rw [phi_one]
  simp only [runD, execs, exec, evx, ev, evs, evo, evc, evi, List.length_cons, List.length_nil, List.map_cons, List.map_nil, List.cons_append, List.nil_append, List.replicate, List.getElem?_cons_zero, List.getElem?_cons_succ, Option.join_some, Option.bind_some, Option.map_some, sub_pt0, sub_pt1, binT, cmpT, isB, if_true, if_false, Out.res, bindT, setAll, wipeE, List.set_cons_zero, List.set_cons_succ, slot, seqT, Nat.reduceAdd, Nat.reduceSub, Nat.sub_self, Nat.zero_add, R.ok, R.st, Bool.not_true, Bool.not_false, Bool.false_eq_true, Nat.reduceEqDiff, Nat.add_eq, Nat.add_zero, Nat.one_ne_zero, Int.reduceLT, Int.reduceLE, Int.reduceToNat, Int.reduceNeg, and_self, true_and, and_true, decide_true, d_law_span, mul_ok ha.1 hb.2, mul_ok ha.2 hb.1, spn]
theorem law_whole_int [Has D i_law_whole d_law_whole] (i : Int) : Phi gv D W (n + 1) i_law_whole [.int i] = some (.val (.bl true)) := by
  rw [phi_one]; rfl
theorem law_pair_ok [Has D i_law_pair d_law_pair] {m far : Int} (hf : 0 < far) (hf2 : far ≤ 100) : Phi gv D W (n + 1) i_law_pair [.int m, .int far] = some (.val (pt (lpair m far))) := by
  rw [phi_one]
  have m1 : binT .mul (.int 2) (.int far) = some (.int (2 * far)) := mulK (sm64 (by omega) (by omega)) (sm64 (by omega) (by omega))
  have m2 := modK (k := 2 * far + 1) m (by omega)
  have m3 := fdivK (k := 41) m (by decide)
  have m4 := modK (k := far + 1) (m / 41) (by omega)
  have d0 : ∀ i : Int, dat 60 (.int i) = true := fun _ => rfl
  simp only [runD, d_law_pair, execs, exec, evx, ev, evs, List.length_cons, List.length_nil, List.map_cons, List.map_nil, List.cons_append, List.nil_append, List.replicate, List.getElem?_cons_zero, List.getElem?_cons_succ, Option.join_some, Option.bind_some, Option.map_some, cmpT, m1, addI, subI, m2, m3, m4, setAll, bindT, List.set_cons_zero, List.set_cons_succ, if_true, Nat.reduceAdd, Nat.reduceSub, Nat.zero_add, d0, Bool.and_self, teq_int]
  unfold lpair
  simp only []
  by_cases hy : m / 41 % (far + 1) = 0
  · rw [if_pos hy, decide_eq_true hy]
    have m5 : ∀ i : Int, binT .mod (.int i) (.int far) = some (.int (i % far)) := fun i => modK i hf
    simp only [execs, exec, ev, evs, Option.bind_some, List.getElem?_cons_zero, List.getElem?_cons_succ, Option.join_some, Option.map_some, bltT, m5, addI, bindT, List.set_cons_zero, List.set_cons_succ]
    rfl
  · rw [if_neg hy, decide_eq_false hy]
    rfl
theorem lpair_ok {m far : Int} (hf : 0 < far) : std (lpair m far) = true ∧ -far ≤ (lpair m far).1 ∧ (lpair m far).1 ≤ far ∧ 0 ≤ (lpair m far).2 ∧ (lpair m far).2 ≤ far := by
  unfold lpair
  simp only []
  have h1 := Int.emod_nonneg m (by omega : 2 * far + 1 ≠ 0)
  have h2 := Int.emod_lt_of_pos m (by omega : 0 < 2 * far + 1)
  have h3 := Int.emod_nonneg (m / 41) (by omega : far + 1 ≠ 0)
  have h4 := Int.emod_lt_of_pos (m / 41) (by omega : 0 < far + 1)
  generalize m % (2 * far + 1) = x at *
  generalize m / 41 % (far + 1) = y at *
  by_cases hy : y = 0
  · rw [if_pos hy]
    generalize (if x - far < 0 then -(x - far) else x - far) = z
    have h5 := Int.emod_nonneg z (by omega : far ≠ 0)
    have h6 := Int.emod_lt_of_pos z hf
    refine ⟨?_, ?_, ?_, ?_, ?_⟩
    · unfold std
      simp only [hy]
      have : decide (0 < 1 + z % far) = true := decide_eq_true (by omega)
      rw [this]; rfl
    all_goals (simp only []; omega)
  · rw [if_neg hy]
    refine ⟨?_, ?_, ?_, ?_, ?_⟩
    · unfold std
      have : decide (0 < y) = true := decide_eq_true (by omega)
      simp only [this, Bool.true_or]
    all_goals (simp only []; omega)
theorem lpair_sm {m far : Int} (hf : 0 < far) (hf2 : far ≤ 100) : SmP (lpair m far) := by
  obtain ⟨_, h1, h2, h3, h4⟩ := lpair_ok (m := m) hf
  exact ⟨sm64 (by omega) (by omega), sm64 (by omega) (by omega)⟩
theorem insS_all {Pr : P2 → Prop} {f : List P2} {s : P2} (h1 : ∀ a ∈ f, Pr a) (h2 : Pr s) : ∀ a ∈ insS f s, Pr a := by
  unfold insS
  split
  · exact h1
  · intro a ha
    rcases List.mem_append.mp ha with ha | ha
    · exact h1 a (List.mem_of_mem_take ha)
    · rcases List.mem_cons.mp ha with rfl | ha
      · exact h2
      · exact h1 a (List.mem_of_mem_drop ha)
theorem insS_len (f : List P2) (s : P2) : (insS f s).length ≤ f.length + 1 := by
  unfold insS
  split
  · omega
  · rw [List.length_append, List.length_cons, List.length_take, List.length_drop]
    have := List.length_filter_le (fun o => decide (0 < spn o s)) f
    omega
theorem law_sticks_ok [Has D i_law_number d_law_number] [Has D i_law_pair d_law_pair] [Has D i_law_span d_law_span] [Has D i_law_sticks d_law_sticks] {ns : List Int} {by_ most far : Int} (hb : ∀ z ∈ ns, B 1048576 z) (hy : 0 ≤ by_) (hy2 : by_ ≤ 100)
    (hm : 0 < most) (hm2 : most ≤ 100) (hf : 0 < far) (hf2 : far ≤ 100) : Phi gv D W (n + 2) i_law_sticks [.scr ns, .int by_, .int most, .int far] = some (.val (.lst ((lsticks ns by_ most far).map pt))) := by
  rw [phi_one]
  have hcb := lcells_B (d := 5) (B.of 1048576 (by show (5 : Nat) < _; exact Nat.lt_of_lt_of_le (by decide : 5 < 2 ^ 3) (Nat.pow_le_pow_right (by omega) (by omega)))) hb
  have hcl := lcells_len 5 ns
  have hcn := lcells_ne 5 ns
  have hsum : B 1048583 ((lcells 5 ns).sum + by_) := ((B.sum (m := 6) hcb (by omega)).add (B.of 7 (by omega) : B 7 by_)).mono (by decide)
  have hcell : exec gv (Phi gv D W (n + 1)) W (.asg (.nm 4) (.ite (.cmp .ne (.var 0) (.lst (.nil))) (.cut (.var 0) (.no) (.so (.cint 63))) (.lst (.cons (.cint 5) .nil)))) [some (.scr ns), some (.int by_), some (.int most), some (.int far), none, none, none, none, none, none, none] =
      some (.nx [some (.scr ns), some (.int by_), some (.int most), some (.int far), some (.lst ((lcells 5 ns).map .int)), none, none, none, none, none, none]) := by
    have d1 : (dat 60 (.scr ns) && dat 60 (.lst [])) = true := rfl
    have c63 : cutL ns none (some 63) = ns.take 63 := cut_to ns 63
    simp only [exec, ev, evs, evo, List.getElem?_cons_zero, Option.join_some, Option.bind_some, cmpT, List.length_nil, Option.map_some, Nat.zero_le, if_true, d1, teq_scr, bindT, List.set_cons_succ, List.set_cons_zero]
    unfold lcells
    by_cases h : ns = []
    · subst h; rfl
    · rw [if_neg h, decide_eq_false h]
      simp only [Bool.not_false, cutT, c63, Option.bind_some, Option.map_some]
  unfold lsticks
  generalize lcells 5 ns = cells at *
  refine runD_of rfl (o := .rt (.lst (((List.range (1 + (cells.sum + by_) % most).toNat).foldl (fun f (at_ : Nat) => insS f (stk cells by_ (cells.sum + by_) far at_)) []).map pt))) ?_ ?_
  · refine execs_nx hcell ?_
    refine execs_nx (env2 := [some (.scr ns), some (.int by_), some (.int most), some (.int far), some (.lst (cells.map .int)), some (.int (cells.sum + by_)), none, none, none, none, none]) ?_ ?_
    · simp only [runD, execs, exec, evx, ev, evs, evo, evc, evi, List.length_cons, List.length_nil, List.map_cons, List.map_nil, List.cons_append, List.nil_append, List.replicate, List.getElem?_cons_zero, List.getElem?_cons_succ, Option.join_some, Option.bind_some, Option.map_some, sub_pt0, sub_pt1, binT, cmpT, isB, if_true, if_false, Out.res, bindT, setAll, wipeE, List.set_cons_zero, List.set_cons_succ, slot, seqT, Nat.reduceAdd, Nat.reduceSub, Nat.sub_self, Nat.zero_add, R.ok, R.st, Bool.not_true, Bool.not_false, Bool.false_eq_true, Nat.reduceEqDiff, Nat.add_eq, Nat.add_zero, Nat.one_ne_zero, Int.reduceLT, Int.reduceLE, Int.reduceToNat, Int.reduceNeg, and_self, true_and, and_true, decide_true, bltT, asInts_map]
    refine execs_nx (env2 := [some (.scr ns), some (.int by_), some (.int most), some (.int far), some (.lst (cells.map .int)), some (.int (cells.sum + by_)), some (.lst []), none, none, none, none]) ?_ ?_
    · simp only [runD, execs, exec, evx, ev, evs, evo, evc, evi, List.length_cons, List.length_nil, List.map_cons, List.map_nil, List.cons_append, List.nil_append, List.replicate, List.getElem?_cons_zero, List.getElem?_cons_succ, Option.join_some, Option.bind_some, Option.map_some, sub_pt0, sub_pt1, binT, cmpT, isB, if_true, if_false, Out.res, bindT, setAll, wipeE, List.set_cons_zero, List.set_cons_succ, slot, seqT, Nat.reduceAdd, Nat.reduceSub, Nat.sub_self, Nat.zero_add, R.ok, R.st, Bool.not_true, Bool.not_false, Bool.false_eq_true, Nat.reduceEqDiff, Nat.add_eq, Nat.add_zero, Nat.one_ne_zero, Int.reduceLT, Int.reduceLE, Int.reduceToNat, Int.reduceNeg, and_self, true_and, and_true, decide_true, Nat.zero_le]
    have h1 := Int.emod_nonneg (cells.sum + by_) (by omega : most ≠ 0)
    have h2 := Int.emod_lt_of_pos (cells.sum + by_) hm
    have hr : rngOk 0 (1 + (cells.sum + by_) % most) = true := decide_eq_true ⟨by omega, by omega, by omega, by omega, by show _ ≤ 1000000; omega⟩
    refine execs_for (List.range (1 + (cells.sum + by_) % most).toNat) (fun i : Nat => T.int (0 + (i : Int)))
      (fun pre env => ∃ x7 x8 x9 x10, env = [some (.scr ns), some (.int by_), some (.int most), some (.int far), some (.lst (cells.map .int)), some (.int (cells.sum + by_)), some (.lst ((pre.foldl (fun f (at_ : Nat) => insS f (stk cells by_ (cells.sum + by_) far at_)) []).map pt)), x7, x8, x9, x10] ∧
        (pre.foldl (fun f (at_ : Nat) => insS f (stk cells by_ (cells.sum + by_) far at_)) []).length ≤ pre.length ∧ ∀ a ∈ pre.foldl (fun f (at_ : Nat) => insS f (stk cells by_ (cells.sum + by_) far at_)) [], SmP a) ?_ ⟨none, none, none, none, rfl, by simp, by simp⟩ ?_ ?_
    · simp only [evi, ev, List.getElem?_cons_zero, List.getElem?_cons_succ, Option.join_some, Option.bind_some, binT, hm, if_true, hr, rng_map, Int.sub_zero]
    · rintro pre x post env hpost ⟨x7, x8, x9, x10, rfl, hlen, hsm⟩
      have hx : x < (1 + (cells.sum + by_) % most).toNat := by
        have : x ∈ List.range (1 + (cells.sum + by_) % most).toNat := by rw [hpost]; simp
        simpa using this
      have hpl : pre.length ≤ 101 := by
        have := congrArg List.length hpost
        rw [List.length_range, List.length_append, List.length_cons] at this
        omega
      generalize hfd : pre.foldl (fun f (at_ : Nat) => insS f (stk cells by_ (cells.sum + by_) far at_)) [] = found at *
      have hs : stk cells by_ (cells.sum + by_) far x = lpair (lnum (cellAt cells ((x : Int) + by_)) ((x : Int) + by_) (cells.sum + by_) / 3) far := rfl
      obtain ⟨hc1, hc2⟩ := cellAt_mem hcn ((x : Int) + by_)
      have hcb' := (hcb _ hc1).mono (by decide : 1048576 ≤ 1048600)
      have hxa : B 20 ((x : Int) + by_) := B.of 20 (by omega)
      have hsmS : SmP (stk cells by_ (cells.sum + by_) far x) := lpair_sm hf hf2
      have hcl0 : 0 < (cells.length : Int) := by
        cases cells with
        | nil => exact absurd rfl hcn
        | cons a l => simp
      generalize hsd : stk cells by_ (cells.sum + by_) far x = s at *
      refine ⟨[some (.scr ns), some (.int by_), some (.int most), some (.int far), some (.lst (cells.map .int)), some (.int (cells.sum + by_)), some (.lst (found.map pt)), some (.int (x : Int)), x8, x9, x10], ?_⟩
      have e1 : bindT (.nm 7) (.int (0 + (x : Int))) [some (.scr ns), some (.int by_), some (.int most), some (.int far), some (.lst (cells.map .int)), some (.int (cells.sum + by_)), some (.lst (found.map pt)), x7, x8, x9, x10] =
        some [some (.scr ns), some (.int by_), some (.int most), some (.int far), some (.lst (cells.map .int)), some (.int (cells.sum + by_)), some (.lst (found.map pt)), some (.int (x : Int)), x8, x9, x10] := by rw [Int.zero_add]; rfl
      have e2 : exec gv (Phi gv D W (n + 1)) W (.asg (.nm 8) (.call i_law_pair (.cons (.bin .fdiv (.call i_law_number (.cons (.sub (.var 4) (.bin .mod (.bin .add (.var 7) (.var 1)) (.blt .len (.cons (.var 4) .nil)))) (.cons (.bin .add (.var 7) (.var 1)) (.cons (.var 5) .nil)))) (.cint 3)) (.cons (.var 3) .nil))))
          [some (.scr ns), some (.int by_), some (.int most), some (.int far), some (.lst (cells.map .int)), some (.int (cells.sum + by_)), some (.lst (found.map pt)), some (.int (x : Int)), x8, x9, x10] =
          some (.nx [some (.scr ns), some (.int by_), some (.int most), some (.int far), some (.lst (cells.map .int)), some (.int (cells.sum + by_)), some (.lst (found.map pt)), some (.int (x : Int)), some (pt s), x9, x10]) := by
        simp only [exec, ev, evs, List.getElem?_cons_zero, List.getElem?_cons_succ, Option.join_some, Option.bind_some, Option.map_some, addI, bltT, List.length_map, modK _ hcl0, subT, atI_map, hc2, law_number_ok hcb' hxa (hsum.mono (by decide)), R.ok, fdivK (k := 3) _ (by decide), law_pair_ok hf hf2, ← hs, bindT, List.set_cons_zero, List.set_cons_succ]
      have e3 : ev gv (Phi gv D W (n + 1)) (.blt .any (.cons (.lc [10] (.nm 10) (.seq (.var 6)) (.no) (.cmp .eq (.call i_law_span (.cons (.var 10) (.cons (.var 8) .nil))) (.cint 0))) .nil))
          [some (.scr ns), some (.int by_), some (.int most), some (.int far), some (.lst (cells.map .int)), some (.int (cells.sum + by_)), some (.lst (found.map pt)), some (.int (x : Int)), some (pt s), x9, x10] = some (.bl (found.any (fun o => decide (spn o s = 0)))) := by
        simp only [ev, evs, evi, evc, List.getElem?_cons_zero, List.getElem?_cons_succ, Option.join_some, Option.bind_some, seqT, wipeE, List.set_cons_zero, List.set_cons_succ]
        rw [lcL_all (fun o : P2 => T.bl (decide (spn o s = 0))) (fun o ho => by
          have d0 : ∀ i : Int, dat 60 (.int i) = true := fun _ => rfl
          simp only [lcE, bindT, List.set_cons_zero, List.set_cons_succ, List.getElem?_cons_zero, List.getElem?_cons_succ, Option.join_some, Option.bind_some, Option.map_some, law_span_pt (hsm o ho) hsmS, R.ok, cmpT, d0, Bool.and_self, if_true, teq_int])]
        simp only [Option.map_some, Option.bind_some, bltT, asBls_mapf, List.any_map]
        rfl
      refine ⟨_, e1, execs_nx e2 (execs_nx (env2 := if found.any (fun o => decide (spn o s = 0)) then [some (.scr ns), some (.int by_), some (.int most), some (.int far), some (.lst (cells.map .int)), some (.int (cells.sum + by_)), some (.lst (found.map pt)), some (.int (x : Int)), some (pt s), x9, x10] else
        [some (.scr ns), some (.int by_), some (.int most), some (.int far), some (.lst (cells.map .int)), some (.int (cells.sum + by_)), some (.lst ((found.take (found.filter fun o => decide (0 < spn o s)).length ++ s :: found.drop (found.filter fun o => decide (0 < spn o s)).length).map pt)), some (.int (x : Int)), some (pt s), some (.int ((found.filter fun o => decide (0 < spn o s)).length : Int)), x10]) ?_ rfl), ?_⟩
      · rw [exec, ev, e3, Option.bind_some]
        cases hq : found.any (fun o => decide (spn o s = 0)) with
        | true => rfl
        | false =>
          simp only [Bool.not_false, Option.bind_some]
          have hfl := List.length_filter_le (fun o => decide (0 < spn o s)) found
          refine execs_nx (env2 := [some (.scr ns), some (.int by_), some (.int most), some (.int far), some (.lst (cells.map .int)), some (.int (cells.sum + by_)), some (.lst (found.map pt)), some (.int (x : Int)), some (pt s), some (.int ((found.filter fun o => decide (0 < spn o s)).length : Int)), x10]) ?_ (execs_nx ?_ rfl)
          · simp only [exec, ev, evs, evi, evc, List.getElem?_cons_zero, List.getElem?_cons_succ, Option.join_some, Option.bind_some, seqT, wipeE, List.set_cons_zero, List.set_cons_succ]
            rw [lcL_if (fun o : P2 => decide (0 < spn o s)) pt (fun o ho => by
              simp only [lcE, bindT, List.set_cons_zero, List.set_cons_succ, List.getElem?_cons_zero, List.getElem?_cons_succ, Option.join_some, Option.bind_some, Option.map_some, law_span_pt (hsm o ho) hsmS, R.ok, cmpT]
              cases decide (0 < spn o s) <;> rfl)]
            simp only [Option.map_some, Option.bind_some, bltT, bindT, List.length_map, List.set_cons_zero, List.set_cons_succ]
          · have hc : (List.map pt found).length < LIM ∧ 0 ≤ ((found.filter fun o => decide (0 < spn o s)).length : Int) ∧ ((found.filter fun o => decide (0 < spn o s)).length : Int) ≤ (List.map pt found).length := by
              rw [List.length_map]
              refine ⟨?_, by omega, by omega⟩
              show _ < 1000000
              omega
            simp only [exec, slot, ev, List.getElem?_cons_zero, List.getElem?_cons_succ, Option.join_some, Option.bind_some, insT, if_pos hc, Int.toNat_natCast, Option.map_some, List.set_cons_zero, List.set_cons_succ]
            simp [List.map_take, List.map_drop]
      · rw [List.foldl_append, hfd]
        have hi : List.foldl (fun f (at_ : Nat) => insS f (stk cells by_ (cells.sum + by_) far at_)) found [x] = insS found s := by rw [← hsd]; rfl
        rw [hi]
        cases hq : found.any (fun o => decide (spn o s = 0)) with
        | true =>
          have e : insS found s = found := by unfold insS; rw [hq]; rfl
          rw [e]
          exact ⟨_, _, _, _, rfl, by rw [List.length_append]; simp; omega, hsm⟩
        | false =>
          have e : insS found s = found.take (found.filter fun o => decide (0 < spn o s)).length ++ s :: found.drop (found.filter fun o => decide (0 < spn o s)).length := by unfold insS; rw [hq]; rfl
          refine ⟨some (.int (x : Int)), some (pt s), some (.int ((found.filter fun o => decide (0 < spn o s)).length : Int)), x10, by rw [e]; rfl, ?_, insS_all hsm hsmS⟩
          have := insS_len found s
          rw [List.length_append]; simp; omega
    · rintro env' ⟨x7, x8, x9, x10, rfl, _, _⟩
      simp only [runD, execs, exec, evx, ev, evs, evo, evc, evi, List.length_cons, List.length_nil, List.map_cons, List.map_nil, List.cons_append, List.nil_append, List.replicate, List.getElem?_cons_zero, List.getElem?_cons_succ, Option.join_some, Option.bind_some, Option.map_some, sub_pt0, sub_pt1, binT, cmpT, isB, if_true, if_false, Out.res, bindT, setAll, wipeE, List.set_cons_zero, List.set_cons_succ, slot, seqT, Nat.reduceAdd, Nat.reduceSub, Nat.sub_self, Nat.zero_add, R.ok, R.st, Bool.not_true, Bool.not_false, Bool.false_eq_true, Nat.reduceEqDiff, Nat.add_eq, Nat.add_zero, Nat.one_ne_zero, Int.reduceLT, Int.reduceLE, Int.reduceToNat, Int.reduceNeg, and_self, true_and, and_true, decide_true]
  · rfl
end
end Sb
namespace Sb
theorem std_iff {a : P2} : std a = true ↔ 0 < a.2 ∨ (a.2 = 0 ∧ 0 < a.1) := by
  unfold std
  simp [Bool.or_eq_true, Bool.and_eq_true, decide_eq_true_eq]
theorem spn_self (a : P2) : spn a a = 0 := by unfold spn; rw [Int.mul_comm]; omega
theorem spn_neg (a b : P2) : spn b a = -spn a b := by
  unfold spn
  rw [Int.mul_comm b.1 a.2, Int.mul_comm b.2 a.1]; omega
/-- the plane has two ways: b's share -/
theorem plk2 (a b c : P2) : b.2 * spn a c = a.2 * spn b c + c.2 * spn a b := by
  unfold spn
  simp only [Int.mul_sub, Int.mul_comm, Int.mul_left_comm, Int.mul_assoc]
  omega
theorem plk1 (a b c : P2) : b.1 * spn a c = a.1 * spn b c + c.1 * spn a b := by
  unfold spn
  simp only [Int.mul_sub, Int.mul_comm, Int.mul_left_comm, Int.mul_assoc]
  omega
theorem mul_nn {a b : Int} (h1 : 0 ≤ a) (h2 : 0 ≤ b) : 0 ≤ a * b := Int.mul_nonneg h1 h2
theorem pos_of_mul {a b : Int} (h1 : 0 < a) (h2 : 0 < a * b) : 0 < b := by
  rcases Int.lt_trichotomy b 0 with h | h | h
  · have := Int.mul_neg_of_pos_of_neg h1 h; omega
  · subst h; simp at h2
  · exact h
theorem spn_trans {a b c : P2} (ha : std a = true) (hb : std b = true) (hc : std c = true) (h1 : 0 < spn a b) (h2 : 0 < spn b c) : 0 < spn a c := by
  rw [std_iff] at ha hb hc
  rcases hb with hb | ⟨hb, hb2⟩
  · have e := plk2 a b c
    refine pos_of_mul hb ?_
    rw [e]
    have p1 : 0 ≤ a.2 := by omega
    have p2 : 0 ≤ c.2 := by omega
    rcases Int.lt_or_eq_of_le p1 with q | q
    · have := Int.mul_pos q h2
      have := mul_nn p2 (Int.le_of_lt h1)
      omega
    · rcases Int.lt_or_eq_of_le p2 with q' | q'
      · have := Int.mul_pos q' h1
        have := mul_nn p1 (Int.le_of_lt h2)
        omega
      · -- both lie along: b c is below
        have hc1 : 0 < c.1 := by omega
        have : spn b c = -(b.2 * c.1) := by unfold spn; rw [← q']; simp
        have := Int.mul_pos hb hc1
        omega
  · have : spn a b = -(a.2 * b.1) := by unfold spn; rw [hb]; simp
    have p1 : 0 ≤ a.2 := by omega
    have := mul_nn p1 (Int.le_of_lt hb2)
    omega
/-- along one line -/
theorem spn_zero_r {a b c : P2} (ha : std a = true) (hb : std b = true) (hc : std c = true) (h1 : spn a b = 0) (h2 : 0 < spn b c) : 0 < spn a c := by
  rw [std_iff] at ha hb hc
  rcases hb with hb | ⟨hb, hb2⟩
  · have e := plk2 a b c
    rw [h1, Int.mul_zero, Int.add_zero] at e
    refine pos_of_mul hb ?_
    rw [e]
    rcases ha with ha | ⟨ha, ha2⟩
    · exact Int.mul_pos ha h2
    · have : spn a b = a.1 * b.2 := by unfold spn; rw [ha]; simp
      have := Int.mul_pos ha2 hb
      omega
  · have e := plk1 a b c
    rw [h1, Int.mul_zero, Int.add_zero] at e
    refine pos_of_mul hb2 ?_
    rw [e]
    rcases ha with ha | ⟨ha, ha2⟩
    · have : spn a b = -(a.2 * b.1) := by unfold spn; rw [hb]; simp
      have := Int.mul_pos ha hb2
      omega
    · exact Int.mul_pos ha2 h2
theorem spn_zero_l {a b c : P2} (ha : std a = true) (hb : std b = true) (hc : std c = true) (h1 : 0 < spn a b) (h2 : spn b c = 0) : 0 < spn a c := by
  have h3 : spn c b = 0 := by rw [spn_neg]; omega
  rcases Int.lt_trichotomy (spn a c) 0 with h | h | h
  · have q : 0 < spn c a := by rw [spn_neg]; omega
    have := spn_trans hc ha hb q h1
    omega
  · have q : spn c a = 0 := by rw [spn_neg]; omega
    have := spn_zero_r hc ha hb q h1
    omega
  · exact h
/-- sorted by turn -/
def Srt (l : List P2) : Prop := l.Pairwise (fun a b => 0 < spn a b) ∧ ∀ a ∈ l, std a = true
theorem insS_srt {l : List P2} {s : P2} (h : Srt l) (hs : std s = true) : Srt (insS l s) := by
  unfold insS
  split
  · exact h
  · rename_i hz
    have hz' : ∀ o ∈ l, spn o s ≠ 0 := fun o ho z => hz (List.any_eq_true.mpr ⟨o, ho, decide_eq_true z⟩)
    refine ⟨?_, fun a ha => ?_⟩
    · -- those ahead of s are a first part
      have key : ∀ (l : List P2), l.Pairwise (fun a b => 0 < spn a b) → (∀ a ∈ l, std a = true) → (∀ o ∈ l, spn o s ≠ 0) →
          (∀ o ∈ l.take (l.filter fun o => decide (0 < spn o s)).length, 0 < spn o s) ∧ ∀ o ∈ l.drop (l.filter fun o => decide (0 < spn o s)).length, 0 < spn s o := by
        intro l
        induction l with
        | nil => intro _ _ _; simp
        | cons a l ih =>
          intro hp hst hne
          rw [List.pairwise_cons] at hp
          obtain ⟨i1, i2⟩ := ih hp.2 (fun x hx => hst x (List.mem_cons_of_mem _ hx)) (fun x hx => hne x (List.mem_cons_of_mem _ hx))
          by_cases ha : 0 < spn a s
          · rw [List.filter_cons_of_pos (by simpa using ha), List.length_cons, List.take_succ_cons, List.drop_succ_cons]
            exact ⟨fun o ho => by rcases List.mem_cons.mp ho with rfl | ho; exact ha; exact i1 o ho, i2⟩
          · have hsa : 0 < spn s a := by
              have := hne a List.mem_cons_self
              rw [spn_neg]; omega
            have all : ∀ o ∈ a :: l, 0 < spn s o := fun o ho => by
              rcases List.mem_cons.mp ho with rfl | ho
              · exact hsa
              · exact spn_trans hs (hst a List.mem_cons_self) (hst o (List.mem_cons_of_mem _ ho)) hsa (hp.1 o ho)
            have hf : (a :: l).filter (fun o => decide (0 < spn o s)) = [] := by
              rw [List.filter_eq_nil_iff]
              intro o ho z
              have h1 := all o ho
              have h2 : 0 < spn o s := of_decide_eq_true z
              rw [spn_neg] at h1; omega
            rw [hf]
            exact ⟨by simp, by simpa using all⟩
      obtain ⟨k1, k2⟩ := key l h.1 h.2 hz'
      generalize (l.filter fun o => decide (0 < spn o s)).length = k at *
      rw [List.pairwise_append, List.pairwise_cons]
      have hsplit : (l.take k ++ l.drop k).Pairwise (fun a b => 0 < spn a b) := by rw [List.take_append_drop]; exact h.1
      rw [List.pairwise_append] at hsplit
      refine ⟨hsplit.1, ⟨k2, hsplit.2.1⟩, fun a ha b hb => ?_⟩
      rcases List.mem_cons.mp hb with rfl | hb
      · exact k1 a ha
      · exact hsplit.2.2 a ha b hb
    · rcases List.mem_append.mp ha with ha | ha
      · exact h.2 a (List.mem_of_mem_take ha)
      · rcases List.mem_cons.mp ha with rfl | ha
        · exact hs
        · exact h.2 a (List.mem_of_mem_drop ha)
theorem insS_ne (l : List P2) (s : P2) : insS l s ≠ [] ∨ l = [] ∧ False := by
  left
  unfold insS
  split
  · rename_i h
    intro z
    subst z
    simp at h
  · simp
/-- the sticks that the laws draw -/
structure Good (far : Int) (m : Nat) (l : List P2) : Prop where
  srt : Srt l
  ne : l ≠ []
  len : l.length ≤ m
  x1 : ∀ a ∈ l, -far ≤ a.1 ∧ a.1 ≤ far
  y1 : ∀ a ∈ l, 0 ≤ a.2 ∧ a.2 ≤ far
theorem lsticks_good (ns : List Int) (by_ : Int) {most far : Int} (hm : 0 < most) (hf : 0 < far) : Good far most.toNat (lsticks ns by_ most far) := by
  unfold lsticks
  have h1 := Int.emod_nonneg ((lcells 5 ns).sum + by_) (by omega : most ≠ 0)
  have h2 := Int.emod_lt_of_pos ((lcells 5 ns).sum + by_) hm
  have key : ∀ (k : Nat) (g : Nat → P2), (∀ i, std (g i) = true ∧ (-far ≤ (g i).1 ∧ (g i).1 ≤ far) ∧ (0 ≤ (g i).2 ∧ (g i).2 ≤ far)) →
      Srt ((List.range k).foldl (fun f i => insS f (g i)) []) ∧ ((List.range k).foldl (fun f i => insS f (g i)) []).length ≤ k ∧ (0 < k → (List.range k).foldl (fun f i => insS f (g i)) [] ≠ []) ∧
      ∀ a ∈ (List.range k).foldl (fun f i => insS f (g i)) [], (-far ≤ a.1 ∧ a.1 ≤ far) ∧ (0 ≤ a.2 ∧ a.2 ≤ far) := by
    intro k g hg
    induction k with
    | zero => exact ⟨⟨.nil, by simp⟩, by simp, by omega, by simp⟩
    | succ k ih =>
      rw [List.range_succ, List.foldl_append]
      obtain ⟨i1, i2, i3, i4⟩ := ih
      generalize (List.range k).foldl (fun f i => insS f (g i)) [] = f at *
      refine ⟨insS_srt i1 (hg k).1, ?_, fun _ => ?_, insS_all i4 (hg k).2⟩
      · exact Nat.le_trans (insS_len f (g k)) (by omega)
      · rcases insS_ne f (g k) with h | h
        · exact h
        · exact h.2.elim
  obtain ⟨k1, k2, k3, k4⟩ := key (1 + ((lcells 5 ns).sum + by_) % most).toNat (fun i => stk (lcells 5 ns) by_ ((lcells 5 ns).sum + by_) far i) (fun i => by
    obtain ⟨q1, q2, q3, q4, q5⟩ := lpair_ok (m := lnum (cellAt (lcells 5 ns) ((i : Int) + by_)) ((i : Int) + by_) ((lcells 5 ns).sum + by_) / 3) hf
    exact ⟨q1, ⟨q2, q3⟩, q4, q5⟩)
  exact ⟨k1, k3 (by omega), Nat.le_trans k2 (by omega), fun a ha => (k4 a ha).1, fun a ha => (k4 a ha).2⟩
end Sb
namespace Sb
/-- sticks that are taken -/
structure OkS (l : List P2) : Prop where
  srt : Srt l
  ne : l ≠ []
  len : l.length ≤ 6
  near : ∀ a ∈ l, near a = true
theorem Good.oks {far : Int} {m : Nat} {l : List P2} (h : Good far m l) (hf : far ≤ 20) (hm : m ≤ 6) : OkS l := by
  refine ⟨h.srt, h.ne, Nat.le_trans h.len hm, fun a ha => ?_⟩
  have h1 := h.x1 a ha
  have h2 := h.y1 a ha
  unfold Sb.near
  simp only [Bool.and_eq_true, decide_eq_true_eq]
  omega
theorem near_iff {a : P2} : near a = true ↔ (-20 ≤ a.1 ∧ a.1 ≤ 20) ∧ (-20 ≤ a.2 ∧ a.2 ≤ 20) := by
  unfold near
  simp only [Bool.and_eq_true, decide_eq_true_eq]
theorem near_sm {a : P2} (h : near a = true) : SmP a := by
  rw [near_iff] at h
  exact ⟨sm64 (by omega) (by omega), sm64 (by omega) (by omega)⟩
theorem OkS.sm {l : List P2} (h : OkS l) : ∀ a ∈ l, SmP a := fun a ha => near_sm (h.near a ha)
theorem Good.sm {far : Int} {m : Nat} {l : List P2} (h : Good far m l) (hf : far ≤ 1000) : ∀ a ∈ l, SmP a := fun a ha => by
  have h1 := h.x1 a ha
  have h2 := h.y1 a ha
  exact ⟨sm64 (by omega) (by omega), sm64 (by omega) (by omega)⟩
theorem all_mapT {α : Type} (f : α → Bool) (l : List α) : bltT .all [.lst (l.map fun a => T.bl (f a))] = some (.bl (l.all f)) := by
  simp only [bltT, asBls_mapf, Option.map_some, List.all_map]; rfl
theorem any_mapT {α : Type} (f : α → Bool) (l : List α) : bltT .any [.lst (l.map fun a => T.bl (f a))] = some (.bl (l.any f)) := by
  simp only [bltT, asBls_mapf, Option.map_some, List.any_map]; rfl
theorem sum_mapT {α : Type} (f : α → Int) (l : List α) : bltT .sum [.lst (l.map fun a => T.int (f a))] = some (.int (l.map f).sum) := by
  simp only [bltT, asInts_mapf, Option.map_some]
def areaR : List P2 → Int
  | [] => 0
  | a :: l => (l.map (spn a)).sum + areaR l
def addP (a b : P2) : P2 := (a.1 + b.1, a.2 + b.2)
def negP (a : P2) : P2 := (-a.1, -a.2)
def putIn : List P2 → P2 → List P2
  | [], s => [s]
  | o :: l, s => if spn o s = 0 then addP o s :: l else if 0 < spn s o then s :: o :: l else o :: putIn l s
def turnP (r : P2) : P2 := if std r then r else negP r
def gath (rows : List P2) : List P2 × P2 := (rows.foldl (fun f r => putIn f (turnP r)) [], sumP (rows.filter fun r => !std r))
section
variable {gv : Nat → Option Int} {D : Nat → Option Df} {W n : Nat}
theorem lc_is_pair [Has D i_is_whole d_is_whole] [Has D i_is_pair d_is_pair] (l : List P2) (x1 x2 x3 : Option T) : ev gv (Phi gv D W (n + 2)) (.blt .all (.cons (.lc [1] (.nm 1) (.seq (.var 0)) (.no) (.call i_is_pair (.cons (.var 1) .nil))) .nil)) [some (.lst (l.map pt)), x1, x2, x3] = some (.bl true) := by
  simp only [ev, evs, evi, evc, List.getElem?_cons_zero, Option.join_some, Option.bind_some, seqT, wipeE, List.set_cons_zero, List.set_cons_succ]
  rw [lcL_all (fun o : P2 => T.bl true) (fun o ho => by
    simp only [lcE, bindT, List.set_cons_zero, List.set_cons_succ, List.getElem?_cons_zero, List.getElem?_cons_succ, Option.join_some, Option.bind_some, Option.map_some, is_pair_pt, R.ok])]
  simp only [Option.map_some, Option.bind_some, all_mapT]
  simp
theorem len_ok [HasG gv 0 6] {Φ : Nat → List T → Option R} {l : List P2} (h0 : l ≠ []) (h6 : l.length ≤ 6) (x1 x2 x3 : Option T) : ev gv Φ (.chn .le .le (.cint 1) (.blt .len (.cons (.var 0) .nil)) (.glob 0)) [some (.lst (l.map pt)), x1, x2, x3] = some (.bl true) := by
  have hg : gv 0 = some 6 := HasG.eq
  have h1 : 1 ≤ (l.length : Int) := by
    cases l with
    | nil => exact absurd rfl h0
    | cons a l => simp; omega
  have h2 : (l.length : Int) ≤ 6 := by omega
  simp only [ev, evs, List.getElem?_cons_zero, Option.join_some, Option.bind_some, bltT, List.length_map, cmpT, h1, decide_true, hg, h2, Option.map_some]
theorem check_sticks_ok [HasG gv 0 6] [HasG gv 1 20] [Has D i_is_whole d_is_whole] [Has D i_is_pair d_is_pair] [Has D i_span d_span] [Has D i_stands d_stands] [Has D i_is_near d_is_near] [Has D i_check_sticks d_check_sticks] {l : List P2} (h : OkS l) :
    Phi gv D W (n + 3) i_check_sticks [.lst (l.map pt)] = some (.val .non) := by
  rw [phi_one]
  refine runD_of rfl (o := .nx [some (.lst (l.map pt)), none, none, none]) (execs_nx (env2 := [some (.lst (l.map pt)), none, none, none]) ?_ (execs_nx (env2 := [some (.lst (l.map pt)), none, none, none]) ?_ (execs_nx (env2 := [some (.lst (l.map pt)), none, none, none]) ?_ rfl))) rfl
  · have e1 : ev gv (Phi gv D W (n + 2)) (.isi (.var 0) .list) [some (.lst (l.map pt)), none, none, none] = some (.bl true) := rfl
    show exec gv (Phi gv D W (n + 2)) W _ [some (.lst (l.map pt)), none, none, none] = _
    rw [exec, ev, ev, e1, Option.bind_some]
    simp only [Bool.not_true, Option.bind_some]
    rw [ev, ev, len_ok h.ne h.len]
    simp only [Bool.not_true, Option.bind_some]
    rw [ev, lc_is_pair]
    rfl
  · rw [exec, ev]
    have e2 : ev gv (Phi gv D W (n + 2)) (.blt .all (.cons (.lc [1] (.nm 1) (.seq (.var 0)) (.no) (.and (.call i_stands (.cons (.var 1) .nil)) (.call i_is_near (.cons (.var 1) .nil)))) .nil)) [some (.lst (l.map pt)), none, none, none] = some (.bl true) := by
      simp only [ev, evs, evi, evc, List.getElem?_cons_zero, Option.join_some, Option.bind_some, seqT, wipeE, List.set_cons_zero, List.set_cons_succ]
      rw [lcL_all (fun o : P2 => T.bl true) (fun o ho => by
        simp only [lcE, bindT, List.set_cons_zero, List.set_cons_succ, List.getElem?_cons_zero, List.getElem?_cons_succ, Option.join_some, Option.bind_some, Option.map_some, stands_pt, is_near_pt, h.srt.2 o ho, h.near o ho, R.ok, isB])]
      simp only [Option.map_some, Option.bind_some, all_mapT]
      simp
    rw [e2]
    rfl
  · rw [exec]
    have hc : ∀ p ∈ l.zip (l.drop 1), p.1 ∈ l ∧ p.2 ∈ l ∧ 0 < spn p.1 p.2 := by
      have key : ∀ (l : List P2), l.Pairwise (fun a b => 0 < spn a b) → ∀ p ∈ l.zip (l.drop 1), p.1 ∈ l ∧ p.2 ∈ l ∧ 0 < spn p.1 p.2 := by
        intro l hp
        induction l with
        | nil => intro p hp'; cases hp'
        | cons a l ih =>
          cases l with
          | nil => intro p hp'; cases hp'
          | cons b l =>
            intro p hp'
            rw [List.drop_succ_cons, List.drop_zero, List.zip_cons_cons] at hp'
            rw [List.pairwise_cons] at hp
            rcases List.mem_cons.mp hp' with rfl | hp'
            · exact ⟨List.mem_cons_self, List.mem_cons_of_mem _ List.mem_cons_self, hp.1 b List.mem_cons_self⟩
            · have := ih hp.2 p (by simpa using hp')
              exact ⟨List.mem_cons_of_mem _ this.1, List.mem_cons_of_mem _ this.2.1, this.2.2⟩
      exact key l h.srt.1
    have e3 : ev gv (Phi gv D W (n + 2)) (.blt .any (.cons (.lc [2, 3] (.tp [2, 3]) (.zip (.var 0) (.cut (.var 0) (.so (.cint 1)) (.no))) (.no) (.cmp .le (.call i_span (.cons (.var 2) (.cons (.var 3) .nil))) (.cint 0))) .nil)) [some (.lst (l.map pt)), none, none, none] = some (.bl false) := by
      simp only [ev, evs, evi, evo, evc, List.getElem?_cons_zero, Option.join_some, Option.bind_some, cutT, cut_1, ← List.map_drop, zip_map, wipeE, List.set_cons_zero, List.set_cons_succ]
      rw [lcL_all (fun o : P2 × P2 => T.bl false) (fun o ho => by
        have hh := hc o ho
        have h0 : decide (spn o.1 o.2 ≤ 0) = false := decide_eq_false (by omega)
        simp only [lcE, bindT, setAll, List.length_cons, List.length_nil, if_true, List.set_cons_zero, List.set_cons_succ, List.getElem?_cons_zero, List.getElem?_cons_succ, Option.join_some, Option.bind_some, Option.map_some, span_pt (h.sm _ hh.1) (h.sm _ hh.2.1), R.ok, cmpT, h0])]
      simp only [Option.map_some, Option.bind_some, any_mapT]
      simp
    rw [e3]
    rfl
theorem zipIdx_app {α : Type} {l pre post : List α} {x : α × Nat} {pre' post' : List (α × Nat)} (h : l.zipIdx = pre' ++ x :: post') : l = pre'.map (·.1) ++ x.1 :: post'.map (·.1) ∧ x.2 = pre'.length := by
  have h1 : l = (pre' ++ x :: post').map (·.1) := by rw [← h]; simp
  refine ⟨by rw [h1]; simp, ?_⟩
  have h2 : (l.zipIdx)[pre'.length]? = some x := by rw [h]; simp
  rw [List.getElem?_zipIdx] at h2
  cases q : l[pre'.length]? with
  | none => rw [q] at h2; cases h2
  | some z => rw [q] at h2; cases h2; simp
theorem areaR_pre (pre post : List P2) (x : P2) : ((pre ++ x :: post).map fun _ => (0 : Int)).length = (pre ++ x :: post).length := by simp
theorem area_of_ok [Has D i_span d_span] [Has D i_area_of d_area_of] {l : List P2} (hs : ∀ a ∈ l, SmP a) : Phi gv D W (n + 2) i_area_of [.lst (l.map pt)] = some (.val (.int (areaR l))) := by
  rw [phi_one]
  refine runD_of rfl (o := .rt (.int (areaR l))) ?_ rfl
  refine execs_nx (env2 := [some (.lst (l.map pt)), some (.int 0), none, none, none]) rfl ?_
  refine execs_for l.zipIdx (fun p : P2 × Nat => T.tup [.int (p.2 : Int), pt p.1]) (fun pre env => ∃ x2 x3 x4, env = [some (.lst (l.map pt)), some (.int (areaR l - areaR (l.drop pre.length))), x2, x3, x4]) ?_ ⟨none, none, none, by simp⟩ ?_ ?_
  · simp only [evi, ev, List.getElem?_cons_zero, Option.join_some, Option.bind_some, enum_map]
  · rintro pre x post env hp ⟨x2, x3, x4, rfl⟩
    obtain ⟨h1, h2⟩ := zipIdx_app (pre := []) (post := []) hp
    obtain ⟨x, k⟩ := x
    simp only at h1 h2
    subst h2
    have hd : l.drop pre.length = x :: l.drop (pre.length + 1) := by
      have hlt : pre.length < l.length := by rw [h1]; simp
      rw [List.drop_eq_getElem_cons hlt]
      congr 1
      have : l[pre.length]? = some x := by rw [h1]; simp
      rw [List.getElem?_eq_getElem hlt] at this
      exact Option.some.inj this
    refine ⟨[some (.lst (l.map pt)), some (.int (areaR l - areaR (l.drop pre.length))), some (.int (pre.length : Int)), some (pt x), x4], [some (.lst (l.map pt)), some (.int (areaR l - areaR (l.drop (pre.length + 1)))), some (.int (pre.length : Int)), some (pt x), x4], rfl, execs_nx ?_ rfl, ⟨_, _, _, by rw [List.length_append]; rfl⟩⟩
    have hx : x ∈ l := by rw [h1]; simp
    have hc : ((pre.length : Int) + 1) = ((pre.length + 1 : Nat) : Int) := by omega
    simp only [exec, slot, ev, evs, evi, evo, evc, List.getElem?_cons_zero, List.getElem?_cons_succ, Option.join_some, Option.bind_some, addI, cutT, hc, cut_from, ← List.map_drop, seqT, wipeE, List.set_cons_zero, List.set_cons_succ]
    rw [lcL_all (fun o : P2 => T.int (spn x o)) (fun o ho => by
      simp only [lcE, bindT, List.set_cons_zero, List.set_cons_succ, List.getElem?_cons_zero, List.getElem?_cons_succ, Option.join_some, Option.bind_some, Option.map_some, span_pt (hs x hx) (hs o (List.mem_of_mem_drop ho)), R.ok])]
    simp only [Option.map_some, Option.bind_some, sum_mapT, addI]
    rw [hd, areaR]
    congr 6
    omega
  · rintro env' ⟨x2, x3, x4, rfl⟩
    have e : l.drop l.zipIdx.length = [] := by simp
    rw [e]
    simp only [runD, execs, exec, evx, ev, evs, evo, evc, evi, List.length_cons, List.length_nil, List.map_cons, List.map_nil, List.cons_append, List.nil_append, List.replicate, List.getElem?_cons_zero, List.getElem?_cons_succ, Option.join_some, Option.bind_some, Option.map_some, sub_pt0, sub_pt1, binT, cmpT, isB, if_true, if_false, Out.res, bindT, setAll, wipeE, List.set_cons_zero, List.set_cons_succ, slot, seqT, Nat.reduceAdd, Nat.reduceSub, Nat.sub_self, Nat.zero_add, R.ok, R.st, Bool.not_true, Bool.not_false, Bool.false_eq_true, Nat.reduceEqDiff, Nat.add_eq, Nat.add_zero, Nat.one_ne_zero, Int.reduceLT, Int.reduceLE, Int.reduceToNat, Int.reduceNeg, and_self, true_and, and_true, decide_true, areaR, Int.sub_zero]
theorem area_ok [HasG gv 0 6] [HasG gv 1 20] [Has D i_is_whole d_is_whole] [Has D i_is_pair d_is_pair] [Has D i_span d_span] [Has D i_stands d_stands] [Has D i_is_near d_is_near] [Has D i_check_sticks d_check_sticks] [Has D i_area_of d_area_of] [Has D i_area d_area] {l : List P2} (h : OkS l) :
    Phi gv D W (n + 4) i_area [.lst (l.map pt)] = some (.val (.int (areaR l))) := by
  rw [phi_one]
  simp only [runD, execs, exec, evx, ev, evs, evo, evc, evi, List.length_cons, List.length_nil, List.map_cons, List.map_nil, List.cons_append, List.nil_append, List.replicate, List.getElem?_cons_zero, List.getElem?_cons_succ, Option.join_some, Option.bind_some, Option.map_some, sub_pt0, sub_pt1, binT, cmpT, isB, if_true, if_false, Out.res, bindT, setAll, wipeE, List.set_cons_zero, List.set_cons_succ, slot, seqT, Nat.reduceAdd, Nat.reduceSub, Nat.sub_self, Nat.zero_add, R.ok, R.st, Bool.not_true, Bool.not_false, Bool.false_eq_true, Nat.reduceEqDiff, Nat.add_eq, Nat.add_zero, Nat.one_ne_zero, Int.reduceLT, Int.reduceLE, Int.reduceToNat, Int.reduceNeg, and_self, true_and, and_true, decide_true, d_area, check_sticks_ok h, area_of_ok h.sm]
end
end Sb
namespace Sb
theorem pt_eq (a b : Int) : T.tup [.int a, .int b] = pt (a, b) := rfl
theorem sumP_two (a b : P2) : sumP [a, b] = addP a b := by simp [sumP, addP]
theorem putIn_pre : ∀ {pre : List P2} {s : P2} (post : List P2), (∀ o ∈ pre, spn o s ≠ 0 ∧ ¬ 0 < spn s o) → putIn (pre ++ post) s = pre ++ putIn post s
  | [], s, post, _ => rfl
  | o :: pre, s, post, h => by
    have h0 := h o List.mem_cons_self
    rw [List.cons_append, putIn, if_neg h0.1, if_neg h0.2, putIn_pre post fun x hx => h x (List.mem_cons_of_mem _ hx)]
    rfl
theorem putIn_len : ∀ (l : List P2) (s : P2), (putIn l s).length ≤ l.length + 1
  | [], s => by simp [putIn]
  | o :: l, s => by
    rw [putIn]
    split
    · simp
    · split
      · simp
      · have := putIn_len l s
        simp; omega
theorem putIn_all {Pr : P2 → Prop} : ∀ {l : List P2} {s : P2}, (∀ a ∈ l, Pr a) → Pr s → (∀ a ∈ l, Pr (addP a s)) → ∀ a ∈ putIn l s, Pr a
  | [], s, _, h2, _ => by intro a ha; rw [putIn, List.mem_singleton] at ha; subst ha; exact h2
  | o :: l, s, h1, h2, h3 => by
    rw [putIn]
    split
    · intro a ha
      rcases List.mem_cons.mp ha with rfl | ha
      · exact h3 o List.mem_cons_self
      · exact h1 a (List.mem_cons_of_mem _ ha)
    · split
      · intro a ha
        rcases List.mem_cons.mp ha with rfl | ha
        · exact h2
        · exact h1 a ha
      · intro a ha
        rcases List.mem_cons.mp ha with rfl | ha
        · exact h1 a List.mem_cons_self
        · exact putIn_all (fun x hx => h1 x (List.mem_cons_of_mem _ hx)) h2 (fun x hx => h3 x (List.mem_cons_of_mem _ hx)) a ha
section
variable {gv : Nat → Option Int} {D : Nat → Option Df} {W n : Nat}
theorem put_in_ok [Has D i_span d_span] [Has D i_added d_added] [Has D i_put_in d_put_in] {l : List P2} {s : P2} (hl : ∀ a ∈ l, SmP a) (hs : SmP s) (hlen : l.length ≤ 1000) : Phi gv D W (n + 2) i_put_in [.lst (l.map pt), pt s] = some (.val (.lst ((putIn l s).map pt))) := by
  rw [phi_one]
  refine runD_of rfl (o := .rt (.lst ((putIn l s).map pt))) ?_ rfl
  have hL : (LIM : Nat) = 1000000 := rfl
  refine execs_forR l.zipIdx (fun p : P2 × Nat => T.tup [.int (p.2 : Int), pt p.1]) (fun pre env => (∃ x2 x3, env = [some (.lst (l.map pt)), some (pt s), x2, x3]) ∧ ∀ o ∈ pre, spn o.1 s ≠ 0 ∧ ¬ 0 < spn s o.1) ?_ ⟨⟨none, none, rfl⟩, by simp⟩ ?_ ?_
  · show evi gv _ _ [some (.lst (l.map pt)), some (pt s), none, none] = _
    simp only [evi, ev, List.getElem?_cons_zero, Option.join_some, Option.bind_some, enum_map]
  · rintro pre x post env hp ⟨⟨x2, x3, rfl⟩, hpre⟩
    obtain ⟨h1, h2⟩ := zipIdx_app (pre := []) (post := []) hp
    obtain ⟨x, k⟩ := x
    simp only at h1 h2
    subst h2
    have hx : x ∈ l := by rw [h1]; simp
    have ht : l.take pre.length = pre.map (·.1) := by
      rw [h1, List.take_append_of_le_length (by simp), List.take_of_length_le (by simp)]
    have hd1 : l.drop (pre.length + 1) = post.map (·.1) := by
      rw [h1, show pre.map (·.1) ++ x :: post.map (·.1) = (pre.map (·.1) ++ [x]) ++ post.map (·.1) by simp, List.drop_append_of_le_length (by simp), List.drop_of_length_le (by simp)]; rfl
    have hd0 : l.drop pre.length = x :: post.map (·.1) := by
      rw [h1, List.drop_append_of_le_length (by simp), List.drop_of_length_le (by simp)]; rfl
    have hput : putIn l s = pre.map (·.1) ++ putIn (x :: post.map (·.1)) s := by
      conv => lhs; rw [h1]
      exact putIn_pre _ (fun o ho => by obtain ⟨q, hq, rfl⟩ := List.mem_map.mp ho; exact hpre q hq)
    have hll : pre.length + (post.length + 1) = l.length := by
      have := congrArg List.length h1
      simp at this; omega
    have hc : ((pre.length : Int) + 1) = ((pre.length + 1 : Nat) : Int) := by omega
    have d0 : ∀ i : Int, dat 60 (.int i) = true := fun _ => rfl
    have e1 : ev gv (Phi gv D W (n + 1)) (.cmp .eq (.call i_span (.cons (.var 3) (.cons (.var 1) .nil))) (.cint 0)) [some (.lst (l.map pt)), some (pt s), some (.int (pre.length : Int)), some (pt x)] = some (.bl (decide (spn x s = 0))) := by
      simp only [ev, evs, List.getElem?_cons_zero, List.getElem?_cons_succ, Option.join_some, Option.bind_some, Option.map_some, span_pt (hl x hx) hs, R.ok, cmpT, d0, Bool.and_self, if_true, teq_int]
    have e2 : ev gv (Phi gv D W (n + 1)) (.cmp .gt (.call i_span (.cons (.var 1) (.cons (.var 3) .nil))) (.cint 0)) [some (.lst (l.map pt)), some (pt s), some (.int (pre.length : Int)), some (pt x)] = some (.bl (decide (0 < spn s x))) := by
      simp only [ev, evs, List.getElem?_cons_zero, List.getElem?_cons_succ, Option.join_some, Option.bind_some, Option.map_some, span_pt hs (hl x hx), R.ok, cmpT]
    refine ⟨[some (.lst (l.map pt)), some (pt s), some (.int (pre.length : Int)), some (pt x)], rfl, ?_⟩
    by_cases hz : spn x s = 0
    · right
      refine ⟨_, execs_rt ?_, rfl⟩
      rw [exec, e1, Option.bind_some, decide_eq_true hz]
      refine execs_rt (exec_ret1 ?_ (flat_pts _))
      have hq : putIn l s = pre.map (·.1) ++ addP x s :: post.map (·.1) := by rw [hput, putIn, if_pos hz]
      have q1 : ev gv (Phi gv D W (n + 1)) (.cut (.var 0) (.no) (.so (.var 2))) [some (.lst (l.map pt)), some (pt s), some (.int (pre.length : Int)), some (pt x)] = some (.lst ((pre.map (·.1)).map pt)) := by
        simp only [ev, evo, List.getElem?_cons_zero, List.getElem?_cons_succ, Option.join_some, Option.bind_some, cutT, cut_to, ← List.map_take, ht]
      have q2 : ev gv (Phi gv D W (n + 1)) (.cut (.var 0) (.so (.bin .add (.var 2) (.cint 1))) (.no)) [some (.lst (l.map pt)), some (pt s), some (.int (pre.length : Int)), some (pt x)] = some (.lst ((post.map (·.1)).map pt)) := by
        simp only [ev, evo, List.getElem?_cons_zero, List.getElem?_cons_succ, Option.join_some, Option.bind_some, addI, hc, cutT, cut_from, ← List.map_drop, hd1]
      have q3 : ev gv (Phi gv D W (n + 1)) (.lst (.cons (.call i_added (.cons (.lst (.cons (.var 3) (.cons (.var 1) .nil))) .nil)) .nil)) [some (.lst (l.map pt)), some (pt s), some (.int (pre.length : Int)), some (pt x)] = some (.lst [pt (addP x s)]) := by
        refine ev_lst (evs_one (ev_call (evs_one (ev_lst (ts := [pt x, pt s]) rfl (by show 2 ≤ 1000000; omega))) ?_)) (by show 1 ≤ 1000000; omega)
        rw [show T.lst [pt x, pt s] = .lst ([x, s].map pt) from rfl, added_pts, sumP_two]
      have := ev_cat (ev_cat q1 q3 (by simp; omega)) q2 (by simp; omega)
      rw [this, hq]; simp
    · by_cases hg : 0 < spn s x
      · right
        refine ⟨_, execs_nx (env2 := [some (.lst (l.map pt)), some (pt s), some (.int (pre.length : Int)), some (pt x)]) ?_ (execs_rt ?_), rfl⟩
        · rw [exec, e1, Option.bind_some, decide_eq_false hz]; rfl
        · rw [exec, e2, Option.bind_some, decide_eq_true hg]
          refine execs_rt (exec_ret1 ?_ (flat_pts _))
          have hq : putIn l s = pre.map (·.1) ++ s :: x :: post.map (·.1) := by rw [hput, putIn, if_neg hz, if_pos hg]
          have q1 : ev gv (Phi gv D W (n + 1)) (.cut (.var 0) (.no) (.so (.var 2))) [some (.lst (l.map pt)), some (pt s), some (.int (pre.length : Int)), some (pt x)] = some (.lst ((pre.map (·.1)).map pt)) := by
            simp only [ev, evo, List.getElem?_cons_zero, List.getElem?_cons_succ, Option.join_some, Option.bind_some, cutT, cut_to, ← List.map_take, ht]
          have q2 : ev gv (Phi gv D W (n + 1)) (.cut (.var 0) (.so (.var 2)) (.no)) [some (.lst (l.map pt)), some (pt s), some (.int (pre.length : Int)), some (pt x)] = some (.lst ((x :: post.map (·.1)).map pt)) := by
            simp only [ev, evo, List.getElem?_cons_zero, List.getElem?_cons_succ, Option.join_some, Option.bind_some, cutT, cut_from, ← List.map_drop, hd0]
          have q3 : ev gv (Phi gv D W (n + 1)) (.lst (.cons (.var 1) .nil)) [some (.lst (l.map pt)), some (pt s), some (.int (pre.length : Int)), some (pt x)] = some (.lst [pt s]) :=
            ev_lst (ts := [pt s]) rfl (by show 1 ≤ 1000000; omega)
          have := ev_cat (ev_cat q1 q3 (by simp; omega)) q2 (by simp; omega)
          rw [this, hq]; simp
      · left
        refine ⟨[some (.lst (l.map pt)), some (pt s), some (.int (pre.length : Int)), some (pt x)], execs_nx (env2 := [some (.lst (l.map pt)), some (pt s), some (.int (pre.length : Int)), some (pt x)]) ?_ (execs_nx ?_ rfl), ⟨_, _, rfl⟩, fun o ho => ?_⟩
        · rw [exec, e1, Option.bind_some, decide_eq_false hz]; rfl
        · rw [exec, e2, Option.bind_some, decide_eq_false hg]; rfl
        · rcases List.mem_append.mp ho with ho | ho
          · exact hpre o ho
          · rw [List.mem_singleton] at ho; subst ho; exact ⟨hz, hg⟩
  · rintro env' ⟨⟨x2, x3, rfl⟩, hpre⟩
    have hq : putIn l s = l ++ [s] := by
      have := putIn_pre (pre := l) (s := s) [] (fun o ho => by
        have : o ∈ l.zipIdx.map (·.1) := by simpa using ho
        obtain ⟨q, hq, rfl⟩ := List.mem_map.mp this
        exact hpre q hq)
      rw [List.append_nil] at this
      rw [this]; rfl
    refine execs_rt (exec_ret1 ?_ (flat_pts _))
    have := ev_cat (gv := gv) (Φ := Phi gv D W (n + 1)) (env := [some (.lst (l.map pt)), some (pt s), x2, x3]) (a := .var 0) (b := .lst (.cons (.var 1) .nil)) (x := l.map pt) (y := [pt s]) rfl (ev_lst (ts := [pt s]) rfl (by show 1 ≤ 1000000; omega)) (by simp; omega)
    rw [this, hq]; simp
theorem gathered_ok [HasG gv 0 6] [HasG gv 1 20] [Has D i_is_whole d_is_whole] [Has D i_is_pair d_is_pair] [Has D i_span d_span] [Has D i_stands d_stands] [Has D i_is_near d_is_near] [Has D i_added d_added] [Has D i_put_in d_put_in] [Has D i_gathered d_gathered]
    {l : List P2} (h0 : l ≠ []) (h6 : l.length ≤ 6) (hn : ∀ a ∈ l, near a = true) (hz : ∀ a ∈ l, a ≠ (0, 0)) : Phi gv D W (n + 3) i_gathered [.lst (l.map pt)] = some (.val (.tup [.lst ((gath l).1.map pt), pt (gath l).2])) := by
  rw [phi_one]
  refine runD_of rfl (o := .rt (.tup [.lst ((gath l).1.map pt), pt (gath l).2])) ?_ rfl
  refine execs_nx (env2 := [some (.lst (l.map pt)), none, none, none]) ?_ (execs_nx (env2 := [some (.lst (l.map pt)), none, none, none]) ?_ (execs_nx (env2 := [some (.lst (l.map pt)), none, some (.lst []), some (.lst ((l.filter fun r => !std r).map pt))]) ?_ ?_))
  · have e1 : ev gv (Phi gv D W (n + 2)) (.isi (.var 0) .list) [some (.lst (l.map pt)), none, none, none] = some (.bl true) := rfl
    show exec gv (Phi gv D W (n + 2)) W _ [some (.lst (l.map pt)), none, none, none] = _
    rw [exec, ev, ev, e1, Option.bind_some]
    simp only [Bool.not_true, Option.bind_some]
    rw [ev, ev, len_ok h0 h6]
    simp only [Bool.not_true, Option.bind_some]
    rw [ev, lc_is_pair]
    rfl
  · rw [exec, ev]
    have e2 : ev gv (Phi gv D W (n + 2)) (.blt .all (.cons (.lc [1] (.nm 1) (.seq (.var 0)) (.no) (.and (.call i_is_near (.cons (.var 1) .nil)) (.cmp .ne (.var 1) (.tup (.cons (.cint 0) (.cons (.cint 0) .nil)))))) .nil)) [some (.lst (l.map pt)), none, none, none] = some (.bl true) := by
      simp only [ev, evs, evi, evc, List.getElem?_cons_zero, Option.join_some, Option.bind_some, seqT, wipeE, List.set_cons_zero, List.set_cons_succ]
      rw [lcL_all (fun o : P2 => T.bl true) (fun o ho => by
        have d1 : (dat 60 (pt o) && dat 60 (pt (0, 0))) = true := rfl
        have h1 : decide (o = (0, 0)) = false := decide_eq_false (hz o ho)
        simp only [lcE, bindT, List.set_cons_zero, List.set_cons_succ, List.getElem?_cons_zero, List.getElem?_cons_succ, Option.join_some, Option.bind_some, Option.map_some, is_near_pt, hn o ho, R.ok, isB, List.length_cons, List.length_nil]
        rw [if_pos (by show _ ≤ 1000000; omega), Option.bind_some, pt_eq]
        simp only [cmpT, d1, if_true, teq_pt, h1]
        rfl)]
      simp only [Option.map_some, Option.bind_some, all_mapT]
      simp
    rw [e2]
    rfl
  · simp only [exec, evs, ev, evi, evc, List.length_nil, List.getElem?_cons_zero, Option.join_some, Option.bind_some, seqT, wipeE, List.set_cons_zero, List.set_cons_succ]
    rw [lcL_if (fun o : P2 => !std o) pt (fun o ho => by
      simp only [lcE, bindT, List.set_cons_zero, List.set_cons_succ, List.getElem?_cons_zero, List.getElem?_cons_succ, Option.join_some, Option.bind_some, Option.map_some, stands_pt, R.ok]
      cases std o <;> rfl)]
    rfl
  · refine execs_for l pt (fun pre env => (∃ x1, env = [some (.lst (l.map pt)), x1, some (.lst ((pre.foldl (fun f r => putIn f (turnP r)) []).map pt)), some (.lst ((l.filter fun r => !std r).map pt))]) ∧ (pre.foldl (fun f r => putIn f (turnP r)) []).length ≤ pre.length ∧
        ∀ a ∈ pre.foldl (fun f r => putIn f (turnP r)) [], (-20 * (pre.length : Int) ≤ a.1 ∧ a.1 ≤ 20 * (pre.length : Int)) ∧ (-20 * (pre.length : Int) ≤ a.2 ∧ a.2 ≤ 20 * (pre.length : Int))) ?_ ⟨⟨none, rfl⟩, by simp, by simp⟩ ?_ ?_
    · simp only [evi, ev, List.getElem?_cons_zero, Option.join_some, Option.bind_some, seqT]
    · rintro pre x post env hp ⟨⟨x1, rfl⟩, hlen, hb⟩
      have hx : x ∈ l := by rw [hp]; simp
      have hnx := near_iff.mp (hn x hx)
      have hpl : pre.length + (post.length + 1) ≤ 6 := by
        have := congrArg List.length hp
        simp at this; omega
      generalize hfd : pre.foldl (fun f r => putIn f (turnP r)) [] = found at *
      have htn : (-20 ≤ (turnP x).1 ∧ (turnP x).1 ≤ 20) ∧ (-20 ≤ (turnP x).2 ∧ (turnP x).2 ≤ 20) := by
        unfold turnP negP
        split
        · exact hnx
        · simp only []; omega
      have hts : SmP (turnP x) := ⟨sm64 (by omega) (by omega), sm64 (by omega) (by omega)⟩
      have hfs : ∀ a ∈ found, SmP a := fun a ha => by
        have := hb a ha
        exact ⟨sm64 (by omega) (by omega), sm64 (by omega) (by omega)⟩
      refine ⟨[some (.lst (l.map pt)), some (pt x), some (.lst (found.map pt)), some (.lst ((l.filter fun r => !std r).map pt))], [some (.lst (l.map pt)), some (pt x), some (.lst ((putIn found (turnP x)).map pt)), some (.lst ((l.filter fun r => !std r).map pt))], rfl, execs_nx ?_ rfl, ?_⟩
      · refine exec_set (ev_call (evs_cons rfl (evs_one (t := pt (turnP x)) ?_)) (put_in_ok hfs hts (by omega)))
        rw [ev_ite (ev_call (evs_one rfl) (stands_pt x))]
        unfold turnP negP
        cases std x with
        | true => rfl
        | false => exact ev_tup (ts := [.int (-x.1), .int (-x.2)]) rfl (by show 2 ≤ 1000000; omega)
      · rw [List.foldl_append, hfd]
        refine ⟨⟨_, rfl⟩, ?_, ?_⟩
        · have := putIn_len found (turnP x)
          rw [List.length_append]; simp; omega
        · refine putIn_all (fun a ha => ?_) ?_ (fun a ha => ?_)
          · have := hb a ha
            rw [List.length_append]; simp; omega
          · rw [List.length_append]; simp; omega
          · have := hb a ha
            unfold addP
            rw [List.length_append]; simp; omega
    · rintro env' ⟨⟨x1, rfl⟩, _, _⟩
      simp only [execs, exec, evx, ev, evs, List.getElem?_cons_zero, List.getElem?_cons_succ, Option.join_some, Option.bind_some, Option.map_some, added_pts, R.ok, List.length_cons, List.length_nil]
      rw [if_pos (by show _ ≤ 1000000; omega)]
      rfl
end
end Sb
namespace Sb
def subP (a b : P2) : P2 := (a.1 - b.1, a.2 - b.2)
theorem spn_add_r (a b c : P2) : spn a (addP b c) = spn a b + spn a c := by
  unfold spn addP; simp only [Int.mul_add]; omega
theorem spn_add_l (a b c : P2) : spn (addP a b) c = spn a c + spn b c := by
  unfold spn addP; simp only [Int.add_mul]; omega
theorem spn_sub_r (a b c : P2) : spn a (subP b c) = spn a b - spn a c := by
  unfold spn subP; simp only [Int.mul_sub]; omega
theorem spn_sub_l (a b c : P2) : spn (subP a b) c = spn a c - spn b c := by
  unfold spn subP; simp only [Int.sub_mul]; omega
theorem spn_0_l (a : P2) : spn (0, 0) a = 0 := by unfold spn; simp
theorem spn_0_r (a : P2) : spn a (0, 0) = 0 := by unfold spn; simp
theorem sumP_nil : sumP [] = (0, 0) := rfl
theorem sumP_cons (a : P2) (l : List P2) : sumP (a :: l) = addP a (sumP l) := by simp [sumP, addP]
theorem sumP_app (l m : List P2) : sumP (l ++ m) = addP (sumP l) (sumP m) := by simp [sumP, addP]
theorem sumP_one (a : P2) : sumP [a] = a := by simp [sumP]
theorem addP_0 (a : P2) : addP a (0, 0) = a := by simp [addP]
theorem addP_0l (a : P2) : addP (0, 0) a = a := by simp [addP]
theorem addP_comm (a b : P2) : addP a b = addP b a := by simp [addP, Int.add_comm]
theorem addP_assoc (a b c : P2) : addP (addP a b) c = addP a (addP b c) := by simp [addP, Int.add_assoc]
theorem spn_sum_r (a : P2) (l : List P2) : spn a (sumP l) = (l.map (spn a)).sum := by
  induction l with
  | nil => exact spn_0_r a
  | cons b l ih => rw [sumP_cons, spn_add_r, ih, List.map_cons, List.sum_cons]
theorem spn_sum_l (a : P2) (l : List P2) : spn (sumP l) a = (l.map fun b => spn b a).sum := by
  induction l with
  | nil => exact spn_0_l a
  | cons b l ih => rw [sumP_cons, spn_add_l, ih, List.map_cons, List.sum_cons]
theorem areaR_cons (a : P2) (l : List P2) : areaR (a :: l) = spn a (sumP l) + areaR l := by rw [areaR, spn_sum_r]
theorem areaR_app (l m : List P2) : areaR (l ++ m) = areaR l + areaR m + spn (sumP l) (sumP m) := by
  induction l with
  | nil => rw [List.nil_append, sumP_nil, spn_0_l, areaR]; omega
  | cons a l ih => rw [List.cons_append, areaR_cons, ih, areaR_cons, sumP_cons, sumP_app, spn_add_r, spn_add_l]; omega
def wkA : List P2 → P2 → List P2
  | [], _ => []
  | s :: l, h => h :: wkA l (addP h s)
def wkS : List P2 → P2 → List P2
  | [], _ => []
  | s :: l, h => h :: wkS l (subP h s)
def lcorn (l : List P2) : List P2 := wkA l (0, 0) ++ wkS l (sumP l)
theorem wkA_len : ∀ (l : List P2) (h : P2), (wkA l h).length = l.length
  | [], _ => rfl
  | s :: l, h => by simp [wkA, wkA_len l]
theorem wkS_len : ∀ (l : List P2) (h : P2), (wkS l h).length = l.length
  | [], _ => rfl
  | s :: l, h => by simp [wkS, wkS_len l]
theorem lcorn_len (l : List P2) : (lcorn l).length = 2 * l.length := by
  unfold lcorn; rw [List.length_append, wkA_len, wkS_len]; omega
theorem wkA_snoc : ∀ (l : List P2) (h s : P2), wkA (l ++ [s]) h = wkA l h ++ [addP h (sumP l)]
  | [], h, s => by rw [sumP_nil, addP_0]; rfl
  | a :: l, h, s => by rw [List.cons_append, wkA, wkA_snoc l, wkA, sumP_cons, addP_assoc]; rfl
theorem wkS_snoc : ∀ (l : List P2) (h s : P2), wkS (l ++ [s]) h = wkS l h ++ [subP h (sumP l)]
  | [], h, s => by rw [sumP_nil]; simp [wkS, subP]
  | a :: l, h, s => by
    rw [List.cons_append, wkS, wkS_snoc l, wkS, sumP_cons]
    have : subP (subP h a) (sumP l) = subP h (addP a (sumP l)) := by
      unfold subP addP
      simp only [Prod.mk.injEq]
      omega
    rw [this]; rfl
/-- corners are near -/
def Bd (m : Int) (a : P2) : Prop := (-m ≤ a.1 ∧ a.1 ≤ m) ∧ (-m ≤ a.2 ∧ a.2 ≤ m)
theorem Bd.sm {m : Int} {a : P2} (h : Bd m a) (hm : m ≤ 1000000000) : SmP a := by
  unfold Bd at h
  exact ⟨sm64 (by omega) (by omega), sm64 (by omega) (by omega)⟩
theorem Bd.mono {m k : Int} {a : P2} (h : Bd m a) (hk : m ≤ k) : Bd k a := by
  unfold Bd at *
  omega
theorem Bd.add {m k : Int} {a b : P2} (h : Bd m a) (h2 : Bd k b) : Bd (m + k) (addP a b) := by
  unfold Bd addP at *
  simp only []
  omega
theorem Bd.sub {m k : Int} {a b : P2} (h : Bd m a) (h2 : Bd k b) : Bd (m + k) (subP a b) := by
  unfold Bd subP at *
  simp only []
  omega
theorem wkA_bd {m : Int} (hm : 0 ≤ m) : ∀ {l : List P2} {h : P2} {k : Int}, (∀ a ∈ l, Bd m a) → Bd k h → ∀ c ∈ wkA l h, Bd (k + m * (l.length : Int)) c
  | [], _, _, _, _ => by intro c hc; cases hc
  | s :: l, h, k, hl, hh => by
    intro c hc
    have e : k + m * ((s :: l).length : Int) = (k + m) + m * (l.length : Int) := by
      rw [List.length_cons]
      have : ((l.length + 1 : Nat) : Int) = (l.length : Int) + 1 := by omega
      rw [this, Int.mul_add]; omega
    have hp : 0 ≤ m * (l.length : Int) := Int.mul_nonneg hm (by omega)
    rw [e]
    rcases List.mem_cons.mp hc with rfl | hc
    · exact hh.mono (by omega)
    · exact wkA_bd hm (fun a ha => hl a (List.mem_cons_of_mem _ ha)) (hh.add (hl s List.mem_cons_self)) c hc
theorem wkS_bd {m : Int} (hm : 0 ≤ m) : ∀ {l : List P2} {h : P2} {k : Int}, (∀ a ∈ l, Bd m a) → Bd k h → ∀ c ∈ wkS l h, Bd (k + m * (l.length : Int)) c
  | [], _, _, _, _ => by intro c hc; cases hc
  | s :: l, h, k, hl, hh => by
    intro c hc
    have e : k + m * ((s :: l).length : Int) = (k + m) + m * (l.length : Int) := by
      rw [List.length_cons]
      have : ((l.length + 1 : Nat) : Int) = (l.length : Int) + 1 := by omega
      rw [this, Int.mul_add]; omega
    have hp : 0 ≤ m * (l.length : Int) := Int.mul_nonneg hm (by omega)
    rw [e]
    rcases List.mem_cons.mp hc with rfl | hc
    · exact hh.mono (by omega)
    · exact wkS_bd hm (fun a ha => hl a (List.mem_cons_of_mem _ ha)) (hh.sub (hl s List.mem_cons_self)) c hc
theorem sumP_bd {m : Int} : ∀ {l : List P2}, (∀ a ∈ l, Bd m a) → Bd (m * (l.length : Int)) (sumP l)
  | [], _ => by rw [sumP_nil]; unfold Bd; simp
  | s :: l, hl => by
    have e : m * ((s :: l).length : Int) = m + m * (l.length : Int) := by
      rw [List.length_cons]
      have : ((l.length + 1 : Nat) : Int) = (l.length : Int) + 1 := by omega
      rw [this, Int.mul_add]; omega
    rw [e, sumP_cons]
    exact (hl s List.mem_cons_self).add (sumP_bd fun a ha => hl a (List.mem_cons_of_mem _ ha))
theorem lcorn_bd {m : Int} (hm : 0 ≤ m) {l : List P2} (hl : ∀ a ∈ l, Bd m a) : ∀ c ∈ lcorn l, Bd (2 * (m * (l.length : Int))) c := by
  intro c hc
  have hp : 0 ≤ m * (l.length : Int) := Int.mul_nonneg hm (by omega)
  unfold lcorn at hc
  rcases List.mem_append.mp hc with hc | hc
  · have := wkA_bd hm hl (k := 0) (by unfold Bd; simp) c hc
    exact this.mono (by omega)
  · have := wkS_bd hm hl (sumP_bd hl) c hc
    exact this.mono (by omega)
theorem OkS.bd {l : List P2} (h : OkS l) : ∀ a ∈ l, Bd 20 a := fun a ha => near_iff.mp (h.near a ha)
theorem OkS.corn {l : List P2} (h : OkS l) : ∀ c ∈ lcorn l, Bd 240 c := fun c hc => by
  have := lcorn_bd (by omega) h.bd c hc
  have h6 := h.len
  exact this.mono (by omega)
theorem mul_bd {x y m k : Int} (h1 : -m ≤ x ∧ x ≤ m) (h2 : -k ≤ y ∧ y ≤ k) : -(m * k) ≤ x * y ∧ x * y ≤ m * k := by
  have hm : 0 ≤ m := by omega
  have hk : 0 ≤ k := by omega
  have e1 : x.natAbs ≤ m.natAbs := by omega
  have e2 : y.natAbs ≤ k.natAbs := by omega
  have e3 : (x * y).natAbs ≤ (m * k).natAbs := by rw [Int.natAbs_mul, Int.natAbs_mul]; exact Nat.mul_le_mul e1 e2
  have e4 : 0 ≤ m * k := Int.mul_nonneg hm hk
  omega
theorem spn_bd {m k : Int} {a b : P2} (h1 : Bd m a) (h2 : Bd k b) : -(2 * (m * k)) ≤ spn a b ∧ spn a b ≤ 2 * (m * k) := by
  unfold Bd at h1 h2
  unfold spn
  have q1 := mul_bd h1.1 h2.2
  have q2 := mul_bd h1.2 h2.1
  omega
theorem areaR_bd {m : Int} (hm : 0 ≤ m) : ∀ {l : List P2}, (∀ a ∈ l, Bd m a) → -(2 * (m * m) * (l.length : Int) * (l.length : Int)) ≤ areaR l ∧ areaR l ≤ 2 * (m * m) * (l.length : Int) * (l.length : Int)
  | [], _ => by simp [areaR]
  | a :: l, h => by
    rw [areaR_cons]
    have h1 := h a List.mem_cons_self
    have h2 := sumP_bd fun b hb => h b (List.mem_cons_of_mem _ hb)
    have h3 := spn_bd h1 h2
    have ih := areaR_bd hm fun b hb => h b (List.mem_cons_of_mem _ hb)
    have e : ((a :: l).length : Int) = (l.length : Int) + 1 := by rw [List.length_cons]; omega
    rw [e]
    have hp : 0 ≤ m * m := Int.mul_nonneg hm hm
    have hq : 0 ≤ (l.length : Int) := by omega
    generalize (l.length : Int) = k at *
    have e1 : m * (m * k) = (m * m) * k := by rw [Int.mul_assoc]
    rw [e1] at h3
    generalize m * m = z at *
    have hzk : 0 ≤ z * k := Int.mul_nonneg hp hq
    have e2 : 2 * z * (k + 1) * (k + 1) = 2 * z * k * k + 2 * (2 * (z * k)) + 2 * z := by
      have a1 : 2 * z * k = 2 * (z * k) := by rw [Int.mul_assoc]
      have a2 : 2 * z * (k + 1) = 2 * (z * k) + 2 * z := by rw [Int.mul_add, a1, Int.mul_one]
      have a3 : (2 * (z * k) + 2 * z) * (k + 1) = (2 * (z * k)) * k + 2 * (z * k) + (2 * z * k + 2 * z) := by
        rw [Int.add_mul, Int.mul_add, Int.mul_add, Int.mul_one, Int.mul_one]
      rw [a2, a3, a1]
      omega
    rw [e2]
    omega
theorem OkS.area {l : List P2} (h : OkS l) : -100000 ≤ areaR l ∧ areaR l ≤ 100000 := by
  have h1 := areaR_bd (by omega) h.bd
  have h6 := h.len
  have e : (l.length : Int) * (l.length : Int) ≤ 6 * 6 := (mul_bd (x := (l.length : Int)) (y := (l.length : Int)) (m := 6) (k := 6) (by omega) (by omega)).2
  have e2 : 2 * (20 * 20) * (l.length : Int) * (l.length : Int) = 800 * ((l.length : Int) * (l.length : Int)) := by rw [Int.mul_assoc]; rfl
  rw [e2] at h1
  omega
/-- the spans of a way, to its end -/
def pathS : List P2 → P2 → Int
  | [], _ => 0
  | a :: l, e => spn a (l.headD e) + pathS l e
theorem pathA : ∀ (l : List P2) (h : P2) (r : List P2) (e : P2), r.headD e = addP h (sumP l) → pathS (wkA l h ++ r) e = spn h (sumP l) + areaR l + pathS r e
  | [], h, r, e, _ => by rw [wkA, List.nil_append, sumP_nil, spn_0_r, areaR]; omega
  | s :: l, h, r, e, hr => by
    have hh : (wkA l (addP h s) ++ r).headD e = addP h s := by
      cases l with
      | nil => rw [wkA, List.nil_append, hr, sumP_cons, sumP_nil, addP_0]
      | cons a l => rfl
    have h2 : r.headD e = addP (addP h s) (sumP l) := by rw [hr, sumP_cons, addP_assoc]
    rw [wkA, List.cons_append, pathS, hh, pathA l (addP h s) r e h2, areaR_cons, sumP_cons, spn_add_r, spn_self, spn_add_l, spn_add_r]
    omega
theorem pathB : ∀ (l : List P2) (h : P2), pathS (wkS l h) (subP h (sumP l)) = areaR l - spn h (sumP l)
  | [], h => by rw [wkS, pathS, areaR, sumP_nil, spn_0_r]; omega
  | s :: l, h => by
    have hh : (wkS l (subP h s)).headD (subP h (sumP (s :: l))) = subP h s := by
      cases l with
      | nil => rw [wkS, sumP_cons, sumP_nil, addP_0]; rfl
      | cons a l => rfl
    have h2 : subP h (sumP (s :: l)) = subP (subP h s) (sumP l) := by
      rw [sumP_cons]
      unfold subP addP
      simp only [Prod.mk.injEq]
      omega
    rw [wkS, pathS, hh, h2, pathB l (subP h s), areaR_cons, sumP_cons, spn_sub_r, spn_self, spn_sub_l, spn_add_r]
    omega
theorem subP_self (a : P2) : subP a a = (0, 0) := by simp [subP]
theorem lcorn_path {l : List P2} (h : l ≠ []) : pathS (lcorn l) (0, 0) = 2 * areaR l := by
  unfold lcorn
  have hr : (wkS l (sumP l)).headD (0, 0) = addP (0, 0) (sumP l) := by
    rw [addP_0l]
    cases l with
    | nil => exact absurd rfl h
    | cons a l => rfl
  rw [pathA l (0, 0) (wkS l (sumP l)) (0, 0) hr, spn_0_l]
  have := pathB l (sumP l)
  rw [subP_self, spn_self] at this
  rw [this]; omega
/-- the same round, by places -/
theorem pathS_round {c : List P2} {a : P2} (h : c.head? = some a) : (c.zipIdx.map fun p => spn p.1 (c.getD ((p.2 + 1) % c.length) (0, 0))).sum = pathS c a := by
  have key : ∀ (pre post : List P2), c = pre ++ post → ((post.zipIdx pre.length).map fun p => spn p.1 (c.getD ((p.2 + 1) % c.length) (0, 0))).sum = pathS post a := by
    intro pre post
    induction post generalizing pre with
    | nil => intro _; rfl
    | cons x post ih =>
      intro e
      rw [List.zipIdx_cons, List.map_cons, List.sum_cons, pathS]
      have := ih (pre ++ [x]) (by rw [e]; simp)
      rw [List.length_append, List.length_singleton] at this
      rw [this]
      congr 1
      congr 1
      have hl : c.length = pre.length + (post.length + 1) := by rw [e]; simp
      cases post with
      | nil =>
        have : (pre.length + 1) % c.length = 0 := by rw [hl]; simp
        rw [this]
        cases c with
        | nil => cases h
        | cons b c => cases h; rfl
      | cons y post =>
        have : (pre.length + 1) % c.length = pre.length + 1 := Nat.mod_eq_of_lt (by rw [hl]; simp)
        rw [this, e]
        simp [List.getD_eq_getElem?_getD, List.getElem?_append_right]
  exact key [] c rfl
theorem sum_abs_pos {l : List P2} {f : P2 → Int} (h : ∀ a ∈ l, 0 ≤ f a) : (l.map fun a => if f a < 0 then -f a else f a).sum = (l.map f).sum := by
  congr 1
  apply List.map_congr_left
  intro a ha
  have := h a ha
  rw [if_neg (by omega)]
theorem area_less {pre post : List P2} {x : P2} (h : Srt (pre ++ x :: post)) : areaR (pre ++ x :: post) - areaR (pre ++ post) = ((pre ++ post).map fun o => if spn x o < 0 then -spn x o else spn x o).sum := by
  have h1 : (pre.map fun o => if spn x o < 0 then -spn x o else spn x o) = pre.map fun o => spn o x := by
    apply List.map_congr_left
    intro o ho
    have : 0 < spn o x := (List.pairwise_append.mp h.1).2.2 o ho x List.mem_cons_self
    have e := spn_neg o x
    rw [if_pos (by omega)]; omega
  have h2 : (post.map fun o => if spn x o < 0 then -spn x o else spn x o) = post.map fun o => spn x o := by
    apply List.map_congr_left
    intro o ho
    have : 0 < spn x o := (List.pairwise_cons.mp (List.pairwise_append.mp h.1).2.1).1 o ho
    rw [if_neg (by omega)]
  rw [List.map_append, List.sum_append, h1, h2, areaR_app, areaR_app, areaR_cons, sumP_cons, spn_add_r, ← spn_sum_l, ← spn_sum_r]
  omega
theorem Srt.sub {l m : List P2} (h : Srt l) (s : m.Sublist l) : Srt m := ⟨h.1.sublist s, fun a ha => h.2 a (s.subset ha)⟩
theorem OkS.sub {l m : List P2} (h : OkS l) (s : m.Sublist l) (hm : m ≠ []) : OkS m := ⟨h.srt.sub s, hm, Nat.le_trans s.length_le h.len, fun a ha => h.near a (s.subset ha)⟩
theorem putIn_end {l : List P2} {s : P2} (h : ∀ o ∈ l, 0 < spn o s) : putIn l s = l ++ [s] := by
  have := putIn_pre (pre := l) (s := s) [] fun o ho => by
    have h1 := h o ho
    have := spn_neg o s
    exact ⟨by omega, by omega⟩
  rw [List.append_nil] at this
  rw [this]; rfl
theorem fold_srt {l : List P2} (h : Srt l) : l.foldl (fun f r => putIn f (turnP r)) [] = l := by
  have key : ∀ (post pre : List P2), Srt (pre ++ post) → post.foldl (fun f r => putIn f (turnP r)) pre = pre ++ post := by
    intro post
    induction post with
    | nil => intro pre _; simp
    | cons x post ih =>
      intro pre hp
      have hx : turnP x = x := by unfold turnP; rw [hp.2 x (by simp)]; rfl
      rw [List.foldl_cons, hx, putIn_end fun o ho => (List.pairwise_append.mp hp.1).2.2 o ho x List.mem_cons_self]
      have := ih (pre ++ [x]) (by rw [List.append_assoc]; exact hp)
      rw [this]; simp
  exact key l [] h
theorem std_add {a b : P2} (ha : std a = true) (hb : std b = true) : std (addP a b) = true := by
  rw [std_iff] at *
  unfold addP
  simp only []
  omega
theorem putIn_srt : ∀ {l : List P2} {s : P2}, Srt l → std s = true → Srt (putIn l s)
  | [], s, _, hs => ⟨by simp [putIn], fun a ha => by rw [putIn, List.mem_singleton] at ha; subst ha; exact hs⟩
  | o :: l, s, h, hs => by
    have hp := List.pairwise_cons.mp h.1
    have ho := h.2 o List.mem_cons_self
    rw [putIn]
    split
    · rename_i hz
      refine ⟨List.pairwise_cons.mpr ⟨fun b hb => ?_, hp.2⟩, fun a ha => ?_⟩
      · have h1 := hp.1 b hb
        have h2 : spn s o = 0 := by rw [spn_neg]; omega
        have h3 := spn_zero_r hs ho (h.2 b (List.mem_cons_of_mem _ hb)) h2 h1
        rw [spn_add_l]; omega
      · rcases List.mem_cons.mp ha with rfl | ha
        · exact std_add ho hs
        · exact h.2 a (List.mem_cons_of_mem _ ha)
    · split
      · rename_i hg
        refine ⟨List.pairwise_cons.mpr ⟨fun b hb => ?_, h.1⟩, fun a ha => ?_⟩
        · rcases List.mem_cons.mp hb with rfl | hb
          · exact hg
          · exact spn_trans hs ho (h.2 b (List.mem_cons_of_mem _ hb)) hg (hp.1 b hb)
        · rcases List.mem_cons.mp ha with rfl | ha
          · exact hs
          · exact h.2 a ha
      · rename_i hz hg
        have hos : 0 < spn o s := by have := spn_neg o s; omega
        have ih := putIn_srt (l := l) (s := s) ⟨hp.2, fun a ha => h.2 a (List.mem_cons_of_mem _ ha)⟩ hs
        refine ⟨List.pairwise_cons.mpr ⟨?_, ih.1⟩, fun a ha => ?_⟩
        · refine putIn_all (Pr := fun b => 0 < spn o b) (fun b hb => hp.1 b hb) hos (fun b hb => ?_)
          have := hp.1 b hb
          rw [spn_add_r]; omega
        · rcases List.mem_cons.mp ha with rfl | ha
          · exact ho
          · exact ih.2 a ha
theorem putIn_area : ∀ {l : List P2} {s : P2}, Srt l → std s = true → areaR l ≤ areaR (putIn l s) ∧ ∃ c : Int, sumP (putIn l s) = addP (sumP l) s
  | [], s, _, _ => ⟨by simp [putIn, areaR], 0, by rw [putIn, sumP_one, sumP_nil, addP_0l]⟩
  | o :: l, s, h, hs => by
    have hp := List.pairwise_cons.mp h.1
    have ho := h.2 o List.mem_cons_self
    have nn : ∀ {a : P2}, (∀ b ∈ l, 0 ≤ spn a b) → 0 ≤ spn a (sumP l) := fun {a} hb => by
      rw [spn_sum_r]
      have : ∀ (m : List P2), (∀ b ∈ m, 0 ≤ spn a b) → 0 ≤ (m.map (spn a)).sum := by
        intro m
        induction m with
        | nil => intro _; simp
        | cons b m ih =>
          intro hm
          rw [List.map_cons, List.sum_cons]
          have h1 := hm b List.mem_cons_self
          have h2 := ih fun c hc => hm c (List.mem_cons_of_mem _ hc)
          omega
      exact this l hb
    rw [putIn]
    split
    · rename_i hz
      refine ⟨?_, 0, by rw [sumP_cons, sumP_cons, addP_assoc, addP_assoc, addP_comm s]⟩
      rw [areaR_cons, areaR_cons, spn_add_l]
      have h2 : spn s o = 0 := by rw [spn_neg]; omega
      have := nn (a := s) fun b hb => Int.le_of_lt (spn_zero_r hs ho (h.2 b (List.mem_cons_of_mem _ hb)) h2 (hp.1 b hb))
      omega
    · split
      · rename_i hg
        refine ⟨?_, 0, by rw [sumP_cons, addP_comm]⟩
        rw [areaR_cons s, sumP_cons, spn_add_r]
        have := nn (a := s) fun b hb => Int.le_of_lt (spn_trans hs ho (h.2 b (List.mem_cons_of_mem _ hb)) hg (hp.1 b hb))
        omega
      · rename_i hz hg
        have hos : 0 < spn o s := by have := spn_neg o s; omega
        obtain ⟨i1, _, i2⟩ := putIn_area (l := l) (s := s) ⟨hp.2, fun a ha => h.2 a (List.mem_cons_of_mem _ ha)⟩ hs
        refine ⟨?_, 0, by rw [sumP_cons, i2, sumP_cons, addP_assoc]⟩
        rw [areaR_cons, areaR_cons, i2, spn_add_r]
        omega
end Sb
namespace Sb
section
variable {gv : Nat → Option Int} {D : Nat → Option Df} {W n : Nat}
theorem law_corners_ok [Has D i_law_corners d_law_corners] {l : List P2} (hl : l.length ≤ 1000) : Phi gv D W (n + 1) i_law_corners [.lst (l.map pt)] = some (.val (.lst ((lcorn l).map pt))) := by
  rw [phi_one]
  have hL : (LIM : Nat) = 1000000 := rfl
  refine runD_of rfl (o := .rt (.lst ((lcorn l).map pt))) ?_ rfl
  refine execs_nx (env2 := [some (.lst (l.map pt)), none, some (.lst []), some (pt (0, 0))]) rfl ?_
  refine execs_for l pt (fun pre env => ∃ x1, env = [some (.lst (l.map pt)), x1, some (.lst ((wkA pre (0, 0)).map pt)), some (pt (sumP pre))]) ?_ ⟨none, rfl⟩ ?_ ?_
  · simp only [evi, ev, List.getElem?_cons_zero, Option.join_some, Option.bind_some, seqT]
  · rintro pre x post env hp ⟨x1, rfl⟩
    have hpl : pre.length ≤ 1000 := by have := congrArg List.length hp; simp at this; omega
    refine ⟨[some (.lst (l.map pt)), some (pt x), some (.lst ((wkA pre (0, 0)).map pt)), some (pt (sumP pre))], [some (.lst (l.map pt)), some (pt x), some (.lst ((wkA (pre ++ [x]) (0, 0)).map pt)), some (pt (sumP (pre ++ [x])))], rfl, execs_nx (env2 := [some (.lst (l.map pt)), some (pt x), some (.lst ((wkA (pre ++ [x]) (0, 0)).map pt)), some (pt (sumP pre))]) ?_ (execs_nx ?_ rfl), ⟨_, rfl⟩⟩
    · simp only [exec, slot, ev, List.getElem?_cons_zero, List.getElem?_cons_succ, Option.join_some, Option.bind_some, appT, List.length_map, wkA_len]
      rw [if_pos (by omega)]
      simp only [Option.map_some, List.set_cons_zero, List.set_cons_succ, wkA_snoc, addP_0l, List.map_append, List.map_cons, List.map_nil]
    · refine exec_set (t := pt (sumP (pre ++ [x]))) (ev_tup (ts := [.int ((sumP pre).1 + x.1), .int ((sumP pre).2 + x.2)]) ?_ (by show 2 ≤ 1000000; omega) |>.trans ?_)
      · simp only [evs, ev, List.getElem?_cons_zero, List.getElem?_cons_succ, Option.join_some, Option.bind_some, sub_pt0, sub_pt1, addI, Option.map_some]
      · rw [sumP_app, sumP_one]; rfl
  · rintro env' ⟨x1, rfl⟩
    refine execs_for l pt (fun pre env => ∃ x1, env = [some (.lst (l.map pt)), x1, some (.lst ((wkA l (0, 0) ++ wkS pre (sumP l)).map pt)), some (pt (subP (sumP l) (sumP pre)))]) ?_ ⟨x1, by simp [wkS, sumP_nil, subP]⟩ ?_ ?_
    · simp only [evi, ev, List.getElem?_cons_zero, Option.join_some, Option.bind_some, seqT]
    · rintro pre x post env hp ⟨x1, rfl⟩
      have hpl : pre.length ≤ 1000 := by have := congrArg List.length hp; simp at this; omega
      refine ⟨[some (.lst (l.map pt)), some (pt x), some (.lst ((wkA l (0, 0) ++ wkS pre (sumP l)).map pt)), some (pt (subP (sumP l) (sumP pre)))], [some (.lst (l.map pt)), some (pt x), some (.lst ((wkA l (0, 0) ++ wkS (pre ++ [x]) (sumP l)).map pt)), some (pt (subP (sumP l) (sumP (pre ++ [x]))))], rfl,
        execs_nx (env2 := [some (.lst (l.map pt)), some (pt x), some (.lst ((wkA l (0, 0) ++ wkS (pre ++ [x]) (sumP l)).map pt)), some (pt (subP (sumP l) (sumP pre)))]) ?_ (execs_nx ?_ rfl), ⟨_, rfl⟩⟩
      · simp only [exec, slot, ev, List.getElem?_cons_zero, List.getElem?_cons_succ, Option.join_some, Option.bind_some, appT, List.length_map, List.length_append, wkA_len, wkS_len]
        rw [if_pos (by omega)]
        simp only [Option.map_some, List.set_cons_zero, List.set_cons_succ, wkS_snoc, List.map_append, List.map_cons, List.map_nil, List.append_assoc]
      · refine exec_set (t := pt (subP (sumP l) (sumP (pre ++ [x])))) (ev_tup (ts := [.int ((subP (sumP l) (sumP pre)).1 - x.1), .int ((subP (sumP l) (sumP pre)).2 - x.2)]) ?_ (by show 2 ≤ 1000000; omega) |>.trans ?_)
        · simp only [evs, ev, List.getElem?_cons_zero, List.getElem?_cons_succ, Option.join_some, Option.bind_some, sub_pt0, sub_pt1, subI, Option.map_some]
        · rw [sumP_app, sumP_one]
          unfold subP addP pt
          simp only [Int.sub_sub]
    · rintro env' ⟨x1, rfl⟩
      exact execs_rt (exec_ret1 rfl (flat_pts _))
end
end Sb
namespace Sb
/-- each with the next one, the last with the end -/
def pathP : List P2 → P2 → List (P2 × P2)
  | [], _ => []
  | a :: l, e => (a, l.headD e) :: pathP l e
theorem round_map {c : List P2} {a : P2} (h : c.head? = some a) : (c.zipIdx.map fun p => (p.1, c.getD ((p.2 + 1) % c.length) (0, 0))) = pathP c a := by
  have key : ∀ (pre post : List P2), c = pre ++ post → ((post.zipIdx pre.length).map fun p => (p.1, c.getD ((p.2 + 1) % c.length) (0, 0))) = pathP post a := by
    intro pre post
    induction post generalizing pre with
    | nil => intro _; rfl
    | cons x post ih =>
      intro e
      rw [List.zipIdx_cons, List.map_cons, pathP]
      have := ih (pre ++ [x]) (by rw [e]; simp)
      rw [List.length_append, List.length_singleton] at this
      rw [this]
      congr 1
      congr 1
      have hl : c.length = pre.length + (post.length + 1) := by rw [e]; simp
      cases post with
      | nil =>
        have : (pre.length + 1) % c.length = 0 := by rw [hl]; simp
        simp only [this]
        cases c with
        | nil => cases h
        | cons b c => cases h; rfl
      | cons y post =>
        have : (pre.length + 1) % c.length = pre.length + 1 := Nat.mod_eq_of_lt (by rw [hl]; simp)
        simp only [this]
        rw [e]
        simp [List.getD_eq_getElem?_getD, List.getElem?_append_right]
  exact key [] c rfl
def stA : List P2 → P2 → List (P2 × P2)
  | [], _ => []
  | s :: l, h => (h, addP h s) :: stA l (addP h s)
def stS : List P2 → P2 → List (P2 × P2)
  | [], _ => []
  | s :: l, h => (h, subP h s) :: stS l (subP h s)
theorem pathP_A : ∀ (l : List P2) (h : P2) (r : List P2) (e : P2), r.headD e = addP h (sumP l) → pathP (wkA l h ++ r) e = stA l h ++ pathP r e
  | [], h, r, e, _ => rfl
  | s :: l, h, r, e, hr => by
    have hh : (wkA l (addP h s) ++ r).headD e = addP h s := by
      cases l with
      | nil => rw [wkA, List.nil_append, hr, sumP_cons, sumP_nil, addP_0]
      | cons a l => rfl
    have h2 : r.headD e = addP (addP h s) (sumP l) := by rw [hr, sumP_cons, addP_assoc]
    rw [wkA, List.cons_append, pathP, hh, pathP_A l (addP h s) r e h2]; rfl
theorem pathP_S : ∀ (l : List P2) (h : P2), pathP (wkS l h) (subP h (sumP l)) = stS l h
  | [], h => rfl
  | s :: l, h => by
    have hh : (wkS l (subP h s)).headD (subP h (sumP (s :: l))) = subP h s := by
      cases l with
      | nil => rw [wkS, sumP_cons, sumP_nil, addP_0]; rfl
      | cons a l => rfl
    have h2 : subP h (sumP (s :: l)) = subP (subP h s) (sumP l) := by
      rw [sumP_cons]
      unfold subP addP
      simp only [Prod.mk.injEq]
      omega
    rw [wkS, pathP, hh, h2, pathP_S l (subP h s)]; rfl
theorem lcorn_round {l : List P2} (h : l ≠ []) : ((lcorn l).zipIdx.map fun p => (p.1, (lcorn l).getD ((p.2 + 1) % (lcorn l).length) (0, 0))) = stA l (0, 0) ++ stS l (sumP l) := by
  have hhead : (lcorn l).head? = some (0, 0) := by
    unfold lcorn
    cases l with
    | nil => exact absurd rfl h
    | cons a l => rfl
  rw [round_map hhead]
  unfold lcorn
  have hr : (wkS l (sumP l)).headD (0, 0) = addP (0, 0) (sumP l) := by
    rw [addP_0l]
    cases l with
    | nil => exact absurd rfl h
    | cons a l => rfl
  rw [pathP_A l (0, 0) (wkS l (sumP l)) (0, 0) hr]
  have := pathP_S l (sumP l)
  rw [subP_self] at this
  rw [this]
/-- a point is on no side's wrong side -/
def sideB (p : P2) (q : P2 × P2) : Bool := !decide (spn (subP q.2 q.1) (subP p q.1) < 0)
def oneB (l : List P2) (p : P2) : Bool := match l with
  | [s] => decide (0 ≤ s.1 * p.1 + s.2 * p.2) && decide (s.1 * p.1 + s.2 * p.2 ≤ s.1 * s.1 + s.2 * s.2)
  | _ => true
def lholds (l : List P2) (p : P2) : Bool := (stA l (0, 0) ++ stS l (sumP l)).all (sideB p) && oneB l p
theorem addP_sub (h s : P2) : subP (addP h s) h = s := by
  unfold subP addP
  simp only []
  have : ∀ a b : Int, a + b - a = b := by intros; omega
  rw [this, this]
theorem sideA (p h s : P2) : sideB p (h, addP h s) = decide (0 ≤ spn s (subP p h)) := by
  unfold sideB
  simp only [addP_sub]
  rw [Bool.eq_iff_iff]
  simp
theorem subP_sub (h s q : P2) : spn (subP (subP h s) h) q = -spn s q := by
  unfold spn subP
  simp only []
  have : ∀ a b : Int, a - b - a = -b := by intros; omega
  rw [this, this, Int.neg_mul, Int.neg_mul]
  omega
theorem sideS (p h s : P2) : sideB p (h, subP h s) = decide (0 ≤ spn s (subP h p)) := by
  unfold sideB
  simp only [subP_sub]
  have : spn s (subP h p) = -spn s (subP p h) := by rw [spn_sub_r, spn_sub_r]; omega
  rw [this, Bool.eq_iff_iff]
  simp
/-- by splits of the sticks -/
theorem stA_all (p : P2) : ∀ (l : List P2) (h : P2), (stA l h).all (sideB p) = true ↔ ∀ pre x post, l = pre ++ x :: post → 0 ≤ spn x (subP p (addP h (sumP pre)))
  | [], h => by
    simp only [stA, List.all_nil, true_iff]
    intro pre x post e
    cases pre <;> cases e
  | s :: l, h => by
    rw [stA, List.all_cons, Bool.and_eq_true, sideA, decide_eq_true_eq, stA_all p l (addP h s)]
    constructor
    · rintro ⟨h1, h2⟩ pre x post e
      cases pre with
      | nil => cases e; rw [sumP_nil, addP_0]; exact h1
      | cons a pre =>
        cases e
        rw [sumP_cons, ← addP_assoc]
        exact h2 pre x post rfl
    · intro hh
      refine ⟨?_, fun pre x post e => ?_⟩
      · have := hh [] s l rfl
        rw [sumP_nil, addP_0] at this
        exact this
      · have := hh (s :: pre) x post (by rw [e]; rfl)
        rw [sumP_cons, ← addP_assoc] at this
        exact this
theorem subP_add (h a b : P2) : subP h (addP a b) = subP (subP h a) b := by
  unfold subP addP
  simp only [Prod.mk.injEq]
  omega
theorem subP_0 (h : P2) : subP h (0, 0) = h := by simp [subP]
theorem stS_all (p : P2) : ∀ (l : List P2) (h : P2), (stS l h).all (sideB p) = true ↔ ∀ pre x post, l = pre ++ x :: post → 0 ≤ spn x (subP (subP h (sumP pre)) p)
  | [], h => by
    simp only [stS, List.all_nil, true_iff]
    intro pre x post e
    cases pre <;> cases e
  | s :: l, h => by
    rw [stS, List.all_cons, Bool.and_eq_true, sideS, decide_eq_true_eq, stS_all p l (subP h s)]
    constructor
    · rintro ⟨h1, h2⟩ pre x post e
      cases pre with
      | nil => cases e; rw [sumP_nil, subP_0]; exact h1
      | cons a pre =>
        cases e
        rw [sumP_cons, subP_add]
        exact h2 pre x post rfl
    · intro hh
      refine ⟨?_, fun pre x post e => ?_⟩
      · have := hh [] s l rfl
        rw [sumP_nil, subP_0] at this
        exact this
      · have := hh (s :: pre) x post (by rw [e]; rfl)
        rw [sumP_cons, subP_add] at this
        exact this
/-- inside: along each stick's turn, between both rims -/
theorem lholds_iff {l : List P2} {p : P2} : lholds l p = true ↔ (∀ pre x post, l = pre ++ x :: post → spn x (sumP pre) ≤ spn x p ∧ spn x p ≤ spn x (sumP post)) ∧ oneB l p = true := by
  unfold lholds
  rw [Bool.and_eq_true, List.all_append, Bool.and_eq_true, stA_all, stS_all]
  have e1 : ∀ pre x post, l = pre ++ x :: post → (0 ≤ spn x (subP p (addP (0, 0) (sumP pre))) ↔ spn x (sumP pre) ≤ spn x p) := fun pre x post e => by
    rw [addP_0l, spn_sub_r]; omega
  have e2 : ∀ pre x post, l = pre ++ x :: post → (0 ≤ spn x (subP (subP (sumP l) (sumP pre)) p) ↔ spn x p ≤ spn x (sumP post)) := fun pre x post e => by
    rw [spn_sub_r, spn_sub_r, e, sumP_app, sumP_cons, spn_add_r, spn_add_r, spn_self]; omega
  constructor
  · rintro ⟨⟨h1, h2⟩, h3⟩
    exact ⟨fun pre x post e => ⟨(e1 pre x post e).mp (h1 pre x post e), (e2 pre x post e).mp (h2 pre x post e)⟩, h3⟩
  · rintro ⟨h1, h2⟩
    exact ⟨⟨fun pre x post e => (e1 pre x post e).mpr (h1 pre x post e).1, fun pre x post e => (e2 pre x post e).mpr (h1 pre x post e).2⟩, h2⟩
/-- sums of some sticks -/
def sums : List P2 → List P2 → List P2
  | [], f => f
  | s :: l, f => sums l (f ++ f.map fun a => addP a s)
theorem sums_mem : ∀ {l f : List P2} {p : P2}, p ∈ sums l f → ∃ a m, a ∈ f ∧ m.Sublist l ∧ p = addP a (sumP m)
  | [], f, p, h => ⟨p, [], h, .slnil, by rw [sumP_nil, addP_0]⟩
  | s :: l, f, p, h => by
    obtain ⟨a, m, h1, h2, h3⟩ := sums_mem (l := l) h
    rcases List.mem_append.mp h1 with h1 | h1
    · exact ⟨a, m, h1, h2.cons s, h3⟩
    · obtain ⟨b, hb, rfl⟩ := List.mem_map.mp h1
      exact ⟨b, s :: m, hb, h2.cons_cons s, by rw [h3, sumP_cons, addP_assoc]⟩
/-- a part of sticks spans with one of them no more than those behind, no less than those ahead -/
theorem sub_le {x : P2} : ∀ {m l : List P2}, m.Sublist l → (∀ a ∈ l, 0 ≤ spn x a) → 0 ≤ spn x (sumP m) ∧ spn x (sumP m) ≤ spn x (sumP l)
  | _, _, .slnil, _ => by rw [sumP_nil, spn_0_r]; omega
  | _, _, .cons a s, h => by
    have ih := sub_le s fun b hb => h b (List.mem_cons_of_mem _ hb)
    have := h a List.mem_cons_self
    rw [sumP_cons, spn_add_r]; omega
  | _, _, .cons_cons a s, h => by
    have ih := sub_le s fun b hb => h b (List.mem_cons_of_mem _ hb)
    have := h a List.mem_cons_self
    rw [sumP_cons, sumP_cons, spn_add_r, spn_add_r]; omega
theorem sub_ge {x : P2} {m l : List P2} (s : m.Sublist l) (h : ∀ a ∈ l, spn x a ≤ 0) : spn x (sumP l) ≤ spn x (sumP m) ∧ spn x (sumP m) ≤ 0 := by
  induction s with
  | slnil => rw [sumP_nil, spn_0_r]; omega
  | cons a s ih =>
    have ih := ih fun b hb => h b (List.mem_cons_of_mem _ hb)
    have := h a List.mem_cons_self
    rw [sumP_cons, spn_add_r]; omega
  | cons_cons a s ih =>
    have ih := ih fun b hb => h b (List.mem_cons_of_mem _ hb)
    have := h a List.mem_cons_self
    rw [sumP_cons, sumP_cons, spn_add_r, spn_add_r]; omega
theorem sub_one {a : P2} {m : List P2} (s : m.Sublist [a]) : m = [] ∨ m = [a] := by
  cases s with
  | cons _ s => cases s; exact .inl rfl
  | cons_cons _ s => cases s; exact .inr rfl
theorem sub_inside {l m : List P2} (h : Srt l) (s : m.Sublist l) : lholds l (sumP m) = true := by
  rw [lholds_iff]
  refine ⟨fun pre x post e => ?_, ?_⟩
  · subst e
    obtain ⟨m1, m2, rfl, s1, s2⟩ := List.sublist_append_iff.mp s
    have hp := List.pairwise_append.mp h.1
    have hq := List.pairwise_cons.mp hp.2.1
    have k1 : ∀ a ∈ pre, spn x a ≤ 0 := fun a ha => by
      have := hp.2.2 a ha x List.mem_cons_self
      have := spn_neg a x
      omega
    have k2 : ∀ a ∈ post, 0 ≤ spn x a := fun a ha => Int.le_of_lt (hq.1 a ha)
    have g1 := sub_ge s1 k1
    have g2 : 0 ≤ spn x (sumP m2) ∧ spn x (sumP m2) ≤ spn x (sumP post) := by
      have k3 : ∀ a ∈ x :: post, 0 ≤ spn x a := fun a ha => by
        rcases List.mem_cons.mp ha with rfl | ha
        · rw [spn_self]; omega
        · exact k2 a ha
      have := sub_le s2 k3
      rw [sumP_cons, spn_add_r, spn_self] at this
      omega
    rw [sumP_app, spn_add_r]
    omega
  · match l, h, s with
    | [], _, _ => rfl
    | [a], h, s =>
      have sq : 0 ≤ a.1 * a.1 + a.2 * a.2 := by
        have h1 : 0 ≤ a.1 * a.1 := by
          rcases Int.le_total 0 a.1 with z | z
          · exact Int.mul_nonneg z z
          · exact Int.mul_nonneg_of_nonpos_of_nonpos z z
        have h2 : 0 ≤ a.2 * a.2 := by
          rcases Int.le_total 0 a.2 with z | z
          · exact Int.mul_nonneg z z
          · exact Int.mul_nonneg_of_nonpos_of_nonpos z z
        omega
      rcases sub_one s with rfl | rfl
      · simp [oneB, sumP_nil]
        exact sq
      · simp [oneB, sumP_one]
        exact sq
    | _ :: _ :: _, _, _ => rfl
end Sb
namespace Sb
def big30 : Int := 1000000000000000000000000000000
theorem sm120 {i : Int} (h : -1000000000000000000000000000000000000 ≤ i) (h2 : i ≤ 1000000000000000000000000000000000000) : Sm i := sm_of 120 (by omega)
theorem Bd.smb {m : Int} {a : P2} (h : Bd m a) (hm : m ≤ 1000000000000000000000000000000000000) : SmP a := by
  unfold Bd at h
  exact ⟨sm120 (by omega) (by omega), sm120 (by omega) (by omega)⟩
section
variable {gv : Nat → Option Int} {D : Nat → Option Df} {W n : Nat}
theorem law_sum_ok [Has D i_law_sum d_law_sum] (l : List P2) : Phi gv D W (n + 1) i_law_sum [.lst (l.map pt)] = some (.val (pt (sumP l))) := by
  rw [phi_one]
  refine runD_of rfl (o := .rt (pt (sumP l))) (execs_rt (exec_ret0 (ev_tup (ts := [.int (sumP l).1, .int (sumP l).2]) (evs_cons (ev_blt (evs_one (ev_lc l pt (fun a => .int a.1) rfl fun a _ => ⟨_, rfl, ev_sub rfl rfl (sub_pt0 a)⟩)) (sum_mapT _ l)) (evs_one (ev_blt (evs_one (ev_lc l pt (fun a => .int a.2) rfl fun a _ => ⟨_, rfl, ev_sub rfl rfl (sub_pt1 a)⟩)) (sum_mapT _ l)))) (by show 2 ≤ 1000000; omega)))) rfl
theorem law_sums_ok [Has D i_law_sums d_law_sums] {l : List P2} (hl : l.length ≤ 10) : Phi gv D W (n + 1) i_law_sums [.lst (l.map pt)] = some (.val (.lst ((sums l [(0, 0)]).map pt))) := by
  rw [phi_one]
  have hL : (LIM : Nat) = 1000000 := rfl
  refine runD_of rfl (o := .rt (.lst ((sums l [(0, 0)]).map pt))) ?_ rfl
  refine execs_nx (env2 := [some (.lst (l.map pt)), some (.lst ([(0, 0)].map pt)), none, none]) rfl ?_
  refine efor l pt (fun pre env => ∃ f x2 x3, env = [some (.lst (l.map pt)), some (.lst (f.map pt)), x2, x3] ∧ f.length = 2 ^ pre.length ∧ ∀ post, l = pre ++ post → sums l [(0, 0)] = sums post f) rfl ⟨_, _, _, rfl, rfl, fun post e => by rw [e]; rfl⟩ ?_ ?_
  · rintro pre x post env hp ⟨f, x2, x3, rfl, hf, hs⟩
    have hpl : pre.length ≤ 9 := by have := congrArg List.length hp; simp at this; omega
    have hpw : 2 ^ pre.length ≤ 2 ^ 9 := Nat.pow_le_pow_right (by omega) hpl
    refine ⟨[some (.lst (l.map pt)), some (.lst (f.map pt)), some (pt x), x3], rfl, runs_nx (env2 := [some (.lst (l.map pt)), some (.lst ((f ++ f.map fun a => addP a x).map pt)), some (pt x), x3]) (exec_set ?_) (runs_nil ⟨_, _, _, rfl, ?_, fun post' e => ?_⟩)⟩
    · have := ev_cat (gv := gv) (Φ := Phi gv D W n) (env := [some (.lst (l.map pt)), some (.lst (f.map pt)), some (pt x), x3]) (a := .var 1) (b := .lc [3] (.nm 3) (.seq (.var 1)) (.no) (.tup (.cons (.bin .add (.sub (.var 3) (.cint 0)) (.sub (.var 2) (.cint 0))) (.cons (.bin .add (.sub (.var 3) (.cint 1)) (.sub (.var 2) (.cint 1))) .nil))))
        (x := f.map pt) (y := f.map fun a => pt (addP a x)) rfl (ev_lc f pt (fun a => pt (addP a x)) rfl fun a _ => ⟨_, rfl, ev_tup (ts := [.int (a.1 + x.1), .int (a.2 + x.2)]) (evs_cons (ev_bin (ev_sub rfl rfl (sub_pt0 a)) (ev_sub rfl rfl (sub_pt0 x)) rfl) (evs_one (ev_bin (ev_sub rfl rfl (sub_pt1 a)) (ev_sub rfl rfl (sub_pt1 x)) rfl))) (by show 2 ≤ 1000000; omega)⟩) (by simp; omega)
      rw [this, List.map_append, List.map_map]; rfl
    · rw [List.length_append, List.length_map, List.length_append, hf, List.length_singleton, Nat.pow_succ]; omega
    · have := hs (x :: post') (by rw [e]; simp)
      rw [this]; rfl
  · rintro env' ⟨f, x2, x3, rfl, hf, hs⟩
    have := hs [] (by simp)
    rw [this]
    exact execs_rt (exec_ret1 rfl (flat_pts _))
theorem subT_pts {c : List P2} {i : Nat} {a : P2} (h : c[i]? = some a) : subT (.lst (c.map pt)) (.int (i : Int)) = some (pt a) := by
  show L2.atI (c.map pt) _ = _
  rw [atI_map, atI_nat, h]; rfl
theorem lcorn_ne {l : List P2} (h : l ≠ []) : 0 < (lcorn l).length := by
  rw [lcorn_len]
  have : l.length ≠ 0 := fun z => h (List.length_eq_zero_iff.mp z)
  omega
theorem nextAt {c : List P2} (h : 0 < c.length) (k : Nat) : c[(k + 1) % c.length]? = some (c.getD ((k + 1) % c.length) (0, 0)) := by
  have hq : (k + 1) % c.length < c.length := Nat.mod_lt _ h
  rw [List.getD_eq_getElem?_getD, List.getElem?_eq_getElem hq]; rfl
/-- the index of the next one, as reckoned -/
theorem ev_next {Φ : Nat → List T → Option R} {env : Env} {c : List P2} (h : 0 < c.length) {i j : Nat} {k : Nat} (h1 : ev gv Φ (.var i) env = some (.lst (c.map pt))) (h2 : ev gv Φ (.var j) env = some (.int (k : Int))) :
    ev gv Φ (.sub (.var i) (.bin .mod (.bin .add (.var j) (.cint 1)) (.blt .len (.cons (.var i) .nil)))) env = some (pt (c.getD ((k + 1) % c.length) (0, 0))) := by
  refine ev_sub (x := .lst (c.map pt)) (y := .int (((k + 1) % c.length : Nat) : Int)) h1 ?_ (subT_pts (nextAt h k))
  refine ev_bin (x := .int ((k : Int) + 1)) (y := .int (c.length : Int)) (ev_bin h2 rfl rfl) (ev_blt (evs_one h1) ?_) ?_
  · simp only [bltT, List.length_map]
  · rw [modK _ (by omega)]
    congr 2
theorem law_holds_ok [Has D i_law_span d_law_span] [Has D i_law_corners d_law_corners] [Has D i_law_holds d_law_holds] {l : List P2} {p : P2} (hne : l ≠ []) (hl : l.length ≤ 1000) (hb : ∀ a ∈ l, Bd 1000000 a) (hp : Bd big30 p) :
    Phi gv D W (n + 2) i_law_holds [.lst (l.map pt), pt p] = some (.val (.bl (lholds l p))) := by
  rw [phi_one]
  refine runD_of rfl (o := .rt (.bl (lholds l p))) ?_ rfl
  refine execs_nx (env2 := [some (.lst (l.map pt)), some (pt p), some (.lst ((lcorn l).map pt)), none, none, none, none, none, none]) (exec_set (ev_call (evs_one rfl) (law_corners_ok hl))) ?_
  have hround := lcorn_round hne
  have hc0 := lcorn_ne hne
  have hcb : ∀ c ∈ lcorn l, Bd 2000000000 c := fun c hc => by
    have := lcorn_bd (by omega) hb c hc
    exact this.mono (by omega)
  have hall : lholds l p = (((lcorn l).zipIdx.map fun q => (q.1, (lcorn l).getD ((q.2 + 1) % (lcorn l).length) (0, 0))).all (sideB p) && oneB l p) := by rw [hround]; rfl
  rw [hall]
  clear hall hround
  generalize lcorn l = c at *
  refine execs_forR c.zipIdx (fun q : P2 × Nat => T.tup [.int (q.2 : Int), pt q.1]) (fun pre env => (∃ x3 x4 x5 x6 x7 x8, env = [some (.lst (l.map pt)), some (pt p), some (.lst (c.map pt)), x3, x4, x5, x6, x7, x8]) ∧ ∀ q ∈ pre, sideB p (q.1, c.getD ((q.2 + 1) % c.length) (0, 0)) = true) ?_ ⟨⟨_, _, _, _, _, _, rfl⟩, by simp⟩ ?_ ?_
  · simp only [evi, ev, List.getElem?_cons_zero, List.getElem?_cons_succ, Option.join_some, Option.bind_some, enum_map]
  · rintro pre q post env hq ⟨⟨x3, x4, x5, x6, x7, x8, rfl⟩, hpre⟩
    obtain ⟨a, k⟩ := q
    have ha : a ∈ c := by
      have : (a, k) ∈ c.zipIdx := by rw [hq]; simp
      have := List.mem_map_of_mem (f := Prod.fst) this
      simpa using this
    have hnx := nextAt hc0 k
    have hn2 : c.getD ((k + 1) % c.length) (0, 0) ∈ c := List.mem_of_getElem? hnx
    have hev := ev_next (gv := gv) (Φ := Phi gv D W (n + 1)) (env := [some (.lst (l.map pt)), some (pt p), some (.lst (c.map pt)), some (.int (k : Int)), some (pt a), x5, x6, x7, x8]) hc0 (i := 2) (j := 3) (k := k) rfl rfl
    generalize hb' : c.getD ((k + 1) % c.length) (0, 0) = b at *
    have s1 : SmP (subP b a) := ((hcb b hn2).sub (hcb a ha)).smb (by omega)
    have s2 : SmP (subP p a) := (hp.sub (hcb a ha)).smb (by unfold big30; omega)
    have hcond : ev gv (Phi gv D W (n + 1)) (.cmp .lt (.call i_law_span (.cons (.var 6) (.cons (.tup (.cons (.bin .sub (.sub (.var 1) (.cint 0)) (.sub (.var 4) (.cint 0))) (.cons (.bin .sub (.sub (.var 1) (.cint 1)) (.sub (.var 4) (.cint 1))) .nil))) .nil))) (.cint 0)) [some (.lst (l.map pt)), some (pt p), some (.lst (c.map pt)), some (.int (k : Int)), some (pt a), some (pt b), some (pt (subP b a)), x7, x8] = some (.bl (decide (spn (subP b a) (subP p a) < 0))) :=
      ev_cmp (ev_call (ts := [pt (subP b a), pt (subP p a)]) (evs_cons rfl (evs_one (ev_tup (ts := [.int (p.1 - a.1), .int (p.2 - a.2)]) (evs_cons (ev_bin (ev_sub rfl rfl (sub_pt0 p)) (ev_sub rfl rfl (sub_pt0 a)) rfl) (evs_one (ev_bin (ev_sub rfl rfl (sub_pt1 p)) (ev_sub rfl rfl (sub_pt1 a)) rfl))) (by show 2 ≤ 1000000; omega)))) (law_span_pt s1 s2)) rfl rfl
    have st1 : exec gv (Phi gv D W (n + 1)) W (.asg (.nm 5) (.sub (.var 2) (.bin .mod (.bin .add (.var 3) (.cint 1)) (.blt .len (.cons (.var 2) .nil))))) [some (.lst (l.map pt)), some (pt p), some (.lst (c.map pt)), some (.int (k : Int)), some (pt a), x5, x6, x7, x8] = some (.nx [some (.lst (l.map pt)), some (pt p), some (.lst (c.map pt)), some (.int (k : Int)), some (pt a), some (pt b), x6, x7, x8]) := exec_set hev
    have st2 : exec gv (Phi gv D W (n + 1)) W (.asg (.nm 6) (.tup (.cons (.bin .sub (.sub (.var 5) (.cint 0)) (.sub (.var 4) (.cint 0))) (.cons (.bin .sub (.sub (.var 5) (.cint 1)) (.sub (.var 4) (.cint 1))) .nil)))) [some (.lst (l.map pt)), some (pt p), some (.lst (c.map pt)), some (.int (k : Int)), some (pt a), some (pt b), x6, x7, x8] = some (.nx [some (.lst (l.map pt)), some (pt p), some (.lst (c.map pt)), some (.int (k : Int)), some (pt a), some (pt b), some (pt (subP b a)), x7, x8]) :=
      exec_set (ev_tup (ts := [.int (b.1 - a.1), .int (b.2 - a.2)]) (evs_cons (ev_bin (ev_sub rfl rfl (sub_pt0 b)) (ev_sub rfl rfl (sub_pt0 a)) rfl) (evs_one (ev_bin (ev_sub rfl rfl (sub_pt1 b)) (ev_sub rfl rfl (sub_pt1 a)) rfl))) (by show 2 ≤ 1000000; omega))
    refine ⟨[some (.lst (l.map pt)), some (pt p), some (.lst (c.map pt)), some (.int (k : Int)), some (pt a), x5, x6, x7, x8], rfl, ?_⟩
    by_cases hlt : spn (subP b a) (subP p a) < 0
    · right
      refine ⟨.bl false, execs_nx st1 (execs_nx st2 (execs_rt ?_)), ?_⟩
      · rw [exec_if hcond, decide_eq_true hlt]; rfl
      · have hf : sideB p (a, b) = false := by unfold sideB; rw [decide_eq_true hlt]; rfl
        have : ((c.zipIdx.map fun q => (q.1, c.getD ((q.2 + 1) % c.length) (0, 0))).all (sideB p)) = false := by
          rw [List.all_eq_false]
          exact ⟨(a, b), List.mem_map.mpr ⟨(a, k), by rw [hq]; simp, by rw [← hb']⟩, by rw [hf]; exact Bool.false_ne_true⟩
        rw [this]; rfl
    · left
      refine ⟨[some (.lst (l.map pt)), some (pt p), some (.lst (c.map pt)), some (.int (k : Int)), some (pt a), some (pt b), some (pt (subP b a)), x7, x8], execs_nx st1 (execs_nx st2 (execs_nx (exec_skip ?_) rfl)), ⟨_, _, _, _, _, _, rfl⟩, fun r hr => ?_⟩
      · rw [hcond, decide_eq_false hlt]
      · rcases List.mem_append.mp hr with hr | hr
        · exact hpre r hr
        · rw [List.mem_singleton] at hr
          subst hr
          show sideB p (a, c.getD ((k + 1) % c.length) (0, 0)) = true
          rw [hb']
          unfold sideB
          rw [decide_eq_false hlt]; rfl
  · rintro env' ⟨⟨x3, x4, x5, x6, x7, x8, rfl⟩, hpre⟩
    have : ((c.zipIdx.map fun q => (q.1, c.getD ((q.2 + 1) % c.length) (0, 0))).all (sideB p)) = true := by
      rw [List.all_eq_true]
      intro r hr
      obtain ⟨q, hq, rfl⟩ := List.mem_map.mp hr
      exact hpre q hq
    rw [this, Bool.true_and]
    have hlen : ev gv (Phi gv D W (n + 1)) (.cmp .gt (.blt .len (.cons (.var 0) .nil)) (.cint 1)) [some (.lst (l.map pt)), some (pt p), some (.lst (c.map pt)), x3, x4, x5, x6, x7, x8] = some (.bl (decide (1 < (l.length : Int)))) :=
      ev_cmp (x := .int (l.length : Int)) (ev_blt (evs_one (t := .lst (l.map pt)) rfl) (by simp only [bltT, List.length_map])) rfl rfl
    match l, hne, hb, hlen with
    | [s], _, hb, hlen =>
      have hs := hb s List.mem_cons_self
      refine execs_nx (env2 := [some (.lst ([s].map pt)), some (pt p), some (.lst (c.map pt)), x3, x4, x5, x6, x7, x8]) (exec_skip hlen) ?_
      refine execs_nx (env2 := [some (.lst ([s].map pt)), some (pt p), some (.lst (c.map pt)), x3, x4, x5, x6, some (.int s.1), some (.int s.2)]) rfl ?_
      refine execs_rt (exec_ret0 ?_)
      have sp : SmP p := hp.smb (by unfold big30; omega)
      have ss : SmP s := hs.smb (by omega)
      have m1 := mulK ss.1 sp.1
      have m2 := mulK ss.2 sp.2
      have m3 := mulK ss.1 ss.1
      have m4 := mulK ss.2 ss.2
      simp only [ev, List.getElem?_cons_zero, List.getElem?_cons_succ, Option.join_some, Option.bind_some, sub_pt0, sub_pt1, m1, m2, m3, m4, addI, cmpT, oneB]
      generalize decide (0 ≤ s.1 * p.1 + s.2 * p.2) = u
      cases u <;> rfl
    | a :: b :: l, _, _, hlen =>
      refine execs_rt ?_
      rw [exec_if hlen, decide_eq_true (by simp; omega)]
      rfl
theorem added_take [Has D i_added d_added] {l : List P2} (k : Nat) : Phi gv D W (n + 1) i_added [.lst ((l.take k).map pt)] = some (.val (pt (sumP (l.take k)))) := added_pts _
def cornP (l : List P2) : List P2 := ((List.range (l.length + 1)).map fun i => sumP (l.take i)) ++ (List.range (l.length - 1)).map fun i => sumP (l.drop (1 + i))
theorem wkA_take : ∀ (l : List P2) (h : P2), wkA l h = (List.range l.length).map fun i => addP h (sumP (l.take i))
  | [], h => rfl
  | s :: l, h => by
    rw [wkA, wkA_take l, List.length_cons, List.range_succ_eq_map, List.map_cons, List.map_map]
    congr 1
    · rw [List.take_zero, sumP_nil, addP_0]
    · apply List.map_congr_left
      intro i _
      simp only [Function.comp, List.take_succ_cons, sumP_cons, addP_assoc]
theorem wkS_drop : ∀ (l : List P2) (h : P2), wkS l (addP h (sumP l)) = (List.range l.length).map fun i => addP h (sumP (l.drop i))
  | [], h => rfl
  | s :: l, h => by
    have e : subP (addP h (sumP (s :: l))) s = addP h (sumP l) := by
      rw [sumP_cons]
      unfold subP addP
      simp only [Prod.mk.injEq]
      omega
    rw [wkS, e, wkS_drop l h, List.length_cons, List.range_succ_eq_map, List.map_cons, List.map_map]
    rfl
theorem cornP_eq {l : List P2} (h : l ≠ []) : cornP l = lcorn l := by
  unfold cornP lcorn
  have h1 := wkS_drop l (0, 0)
  rw [addP_0l] at h1
  rw [wkA_take, h1]
  simp only [addP_0l]
  have hl : l.length = (l.length - 1) + 1 := by
    have : l.length ≠ 0 := fun z => h (List.length_eq_zero_iff.mp z)
    omega
  rw [List.range_succ, List.map_append, List.append_assoc]
  congr 1
  conv => rhs; rw [hl, List.range_succ_eq_map, List.map_cons, List.map_map]
  rw [List.map_cons, List.map_nil, List.take_length, List.drop_zero]
  show sumP l :: _ = _
  congr 1
  apply List.map_congr_left
  intro i _
  simp only [Function.comp, Nat.succ_eq_add_one]
  rw [Nat.add_comm]
theorem check_point_ok [Has D i_is_whole d_is_whole] [Has D i_is_pair d_is_pair] [Has D i_check_point d_check_point] (p : P2) : Phi gv D W (n + 3) i_check_point [pt p] = some (.val .non) := by
  rw [phi_one]
  exact runD_of rfl (execs_nx (exec_skip (ev_not (k := true) (ev_call (evs_one rfl) (is_pair_pt p)))) rfl) rfl
theorem opposite_ok [HasG gv 0 6] [HasG gv 1 20] [Has D i_is_whole d_is_whole] [Has D i_is_pair d_is_pair] [Has D i_span d_span] [Has D i_stands d_stands] [Has D i_is_near d_is_near] [Has D i_check_sticks d_check_sticks] [Has D i_added d_added] [Has D i_check_point d_check_point] [Has D i_opposite d_opposite] {l : List P2} (h : OkS l) (p : P2) :
    Phi gv D W (n + 4) i_opposite [.lst (l.map pt), pt p] = some (.val (pt (subP (sumP l) p))) := by
  rw [phi_one]
  refine runD_of rfl (o := .rt (pt (subP (sumP l) p))) ?_ rfl
  refine execs_nx (env2 := [some (.lst (l.map pt)), some (pt p), none]) (exec_exp (evs_one rfl) (check_sticks_ok h)) (execs_nx (env2 := [some (.lst (l.map pt)), some (pt p), none]) (exec_exp (evs_one rfl) (check_point_ok p)) (execs_nx (env2 := [some (.lst (l.map pt)), some (pt p), some (pt (sumP l))]) (exec_set (ev_call (evs_one rfl) (added_pts l))) (execs_rt (exec_ret0 ?_))))
  exact ev_tup (ts := [.int ((sumP l).1 - p.1), .int ((sumP l).2 - p.2)]) (evs_cons (ev_bin (ev_sub rfl rfl (sub_pt0 _)) (ev_sub rfl rfl (sub_pt0 p)) rfl) (evs_one (ev_bin (ev_sub rfl rfl (sub_pt1 _)) (ev_sub rfl rfl (sub_pt1 p)) rfl))) (by show 2 ≤ 1000000; omega)
end
end Sb
namespace Sb
theorem std_ne {s : P2} (h : std s = true) : s.1 ≠ 0 ∨ s.2 ≠ 0 := by
  have := std_iff.mp h
  omega
theorem std_negG {s : P2} (h : std s = true) : std (negP s) = false := by
  have := std_iff.mp h
  cases hn : std (negP s) with
  | false => rfl
  | true =>
    have := std_iff.mp hn
    unfold negP at this
    simp only [] at this
    omega
theorem turn_std {r : P2} (h : r ≠ (0, 0)) : std (turnP r) = true := by
  unfold turnP
  cases hs : std r with
  | true => rw [if_pos rfl]; exact hs
  | false =>
    rw [if_neg Bool.false_ne_true]
    have h1 : ¬ (0 < r.2 ∨ (r.2 = 0 ∧ 0 < r.1)) := fun z => by rw [std_iff.mpr z] at hs; cases hs
    have h2 : ¬ (r.1 = 0 ∧ r.2 = 0) := fun z => h (Prod.ext z.1 z.2)
    refine std_iff.mpr ?_
    unfold negP
    simp only []
    omega
/-- along one line -/
theorem col_trans {a b x : P2} (ha : std a = true) (h1 : spn a b = 0) (h2 : spn a x = 0) : spn b x = 0 := by
  have e1 : a.1 * spn b x = 0 := by
    have := plk1 b a x
    rw [h2, spn_neg a b, h1] at this
    simpa using this
  have e2 : a.2 * spn b x = 0 := by
    have := plk2 b a x
    rw [h2, spn_neg a b, h1] at this
    simpa using this
  rcases std_ne ha with h | h
  · exact (Int.mul_eq_zero.mp e1).resolve_left h
  · exact (Int.mul_eq_zero.mp e2).resolve_left h
theorem spn_zero_sym {a b : P2} (h : spn a b = 0) : spn b a = 0 := by rw [spn_neg, h]; rfl
/-- the two ways of putting a stick in -/
theorem putIn_ways : ∀ {l : List P2} {r : P2}, Srt l → std r = true →
    (∃ pre o post, l = pre ++ o :: post ∧ spn o r = 0 ∧ putIn l r = pre ++ addP o r :: post) ∨ ((∀ o ∈ l, spn o r ≠ 0) ∧ ∃ pre post, l = pre ++ post ∧ putIn l r = pre ++ r :: post)
  | [], r, _, _ => .inr ⟨(fun o h => by cases h), [], [], rfl, rfl⟩
  | o :: l, r, h, hr => by
    have ho := h.2 o List.mem_cons_self
    have hs : Srt l := ⟨(List.pairwise_cons.mp h.1).2, fun a ha => h.2 a (List.mem_cons_of_mem _ ha)⟩
    have hp := (List.pairwise_cons.mp h.1).1
    by_cases h0 : spn o r = 0
    · exact .inl ⟨[], o, l, rfl, h0, by rw [putIn, if_pos h0]; rfl⟩
    · by_cases h1 : 0 < spn r o
      · refine .inr ⟨fun x hx => ?_, [], o :: l, rfl, by rw [putIn, if_neg h0, if_pos h1]; rfl⟩
        rcases List.mem_cons.mp hx with rfl | hx
        · exact h0
        · have := spn_trans hr ho (hs.2 x hx) h1 (hp x hx)
          have e := spn_neg r x
          omega
      · rcases putIn_ways hs hr with ⟨pre, o', post, e1, e2, e3⟩ | ⟨e1, pre, post, e2, e3⟩
        · exact .inl ⟨o :: pre, o', post, by rw [e1]; rfl, e2, by rw [putIn, if_neg h0, if_neg h1, e3]; rfl⟩
        · refine .inr ⟨fun x hx => ?_, o :: pre, post, by rw [e2]; rfl, by rw [putIn, if_neg h0, if_neg h1, e3]; rfl⟩
          rcases List.mem_cons.mp hx with rfl | hx
          · exact h0
          · exact e1 x hx
def alg (p : List P2) (s : P2) : List P2 := p.filter fun r => decide (spn s r = 0)
structure Gat (p l : List P2) : Prop where
  srt : Srt l
  std : ∀ x ∈ p, Sb.std x = true
  mine : ∀ s ∈ l, alg p s ≠ [] ∧ s = sumP (alg p s)
  each : ∀ r ∈ p, ∃ s ∈ l, spn s r = 0
theorem alg_snoc (p : List P2) (s r : P2) : alg (p ++ [r]) s = alg p s ++ if spn s r = 0 then [r] else [] := by
  unfold alg
  rw [List.filter_append]
  congr 1
  by_cases h : spn s r = 0 <;> simp [h]
theorem Gat.put {p l : List P2} {r : P2} (h : Gat p l) (hr : Sb.std r = true) : Gat (p ++ [r]) (putIn l r) := by
  have hsrt := putIn_srt h.srt hr
  have hstd : ∀ x ∈ p ++ [r], Sb.std x = true := fun x hx => by
    rcases List.mem_append.mp hx with hx | hx
    · exact h.std x hx
    · rw [List.mem_singleton] at hx; subst hx; exact hr
  rcases putIn_ways h.srt hr with ⟨pre, o, post, e1, e2, e3⟩ | ⟨e1, pre, post, e2, e3⟩
  · have ho : o ∈ l := by rw [e1]; simp
    have hos := h.srt.2 o ho
    have hor : Sb.std (addP o r) = true := std_add hos hr
    have same : ∀ x, spn (addP o r) x = 0 ↔ spn o x = 0 := fun x => by
      constructor
      · intro z
        exact col_trans hor (by rw [spn_add_l, spn_self, spn_zero_sym e2]; rfl) z
      · intro z
        rw [spn_add_l, z, col_trans hos e2 z]; rfl
    have oth : ∀ s, s ∈ pre ∨ s ∈ post → spn s r ≠ 0 := fun s hs z => by
      have hsl : s ∈ l := by rw [e1]; rcases hs with hs | hs <;> simp [hs]
      have h1 : spn s o = 0 := spn_zero_sym (col_trans hr (spn_zero_sym e2) (spn_zero_sym z))
      have hp := h.srt.1
      rw [e1, List.pairwise_append] at hp
      rcases hs with hs | hs
      · have := hp.2.2 s hs o List.mem_cons_self
        omega
      · have := (List.pairwise_cons.mp hp.2.1).1 s hs
        rw [spn_neg s o] at this
        omega
    refine ⟨hsrt, hstd, fun s hs => ?_, fun x hx => ?_⟩
    · rw [e3] at hs
      have old : s ∈ pre ∨ s ∈ post → alg (p ++ [r]) s ≠ [] ∧ s = sumP (alg (p ++ [r]) s) := fun hs => by
        have hsl : s ∈ l := by rw [e1]; rcases hs with hs | hs <;> simp [hs]
        rw [alg_snoc, if_neg (oth s hs), List.append_nil]
        exact h.mine s hsl
      rcases List.mem_append.mp hs with hs | hs
      · exact old (.inl hs)
      · rcases List.mem_cons.mp hs with rfl | hs
        · have e : alg p (addP o r) = alg p o := by
            unfold alg
            apply List.filter_congr
            intro x _
            by_cases z : spn o x = 0
            · rw [decide_eq_true z, decide_eq_true ((same x).mpr z)]
            · rw [decide_eq_false z, decide_eq_false fun y => z ((same x).mp y)]
          rw [alg_snoc, if_pos ((same r).mpr e2), e]
          refine ⟨by simp, ?_⟩
          rw [sumP_app, sumP_one, ← (h.mine o ho).2]
        · exact old (.inr hs)
    · rcases List.mem_append.mp hx with hx | hx
      · obtain ⟨s, hs, z⟩ := h.each x hx
        rw [e1] at hs
        rcases List.mem_append.mp hs with hs | hs
        · exact ⟨s, by rw [e3]; simp [hs], z⟩
        · rcases List.mem_cons.mp hs with rfl | hs
          · exact ⟨addP s r, by rw [e3]; simp, (same x).mpr z⟩
          · exact ⟨s, by rw [e3]; simp [hs], z⟩
      · rw [List.mem_singleton] at hx
        subst hx
        exact ⟨addP o x, by rw [e3]; simp, (same x).mpr e2⟩
  · refine ⟨hsrt, hstd, fun s hs => ?_, fun x hx => ?_⟩
    · rw [e3] at hs
      have old : s ∈ l → alg (p ++ [r]) s ≠ [] ∧ s = sumP (alg (p ++ [r]) s) := fun hs => by
        rw [alg_snoc, if_neg (e1 s hs), List.append_nil]
        exact h.mine s hs
      rcases List.mem_append.mp hs with hs | hs
      · exact old (by rw [e2]; simp [hs])
      · rcases List.mem_cons.mp hs with rfl | hs
        · have e : alg p s = [] := by
            unfold alg
            rw [List.filter_eq_nil_iff]
            intro x hx
            obtain ⟨o, ho, z⟩ := h.each x hx
            intro y
            have y' : spn s x = 0 := by simpa using y
            exact e1 o ho (spn_zero_sym (col_trans (h.std x hx) (spn_zero_sym y') (spn_zero_sym z)))
          rw [alg_snoc, if_pos (spn_self s), e]
          exact ⟨by simp, by rw [List.nil_append, sumP_one]⟩
        · exact old (by rw [e2]; simp [hs])
    · rcases List.mem_append.mp hx with hx | hx
      · obtain ⟨s, hs, z⟩ := h.each x hx
        rw [e2] at hs
        refine ⟨s, ?_, z⟩
        rw [e3]
        rcases List.mem_append.mp hs with hs | hs <;> simp [hs]
      · rw [List.mem_singleton] at hx
        subst hx
        exact ⟨x, by rw [e3]; simp, spn_self x⟩
theorem gat_fold : ∀ {q p f : List P2}, Gat p f → (∀ x ∈ q, std x = true) → Gat (p ++ q) (q.foldl putIn f)
  | [], p, f, h, _ => by simpa using h
  | x :: q, p, f, h, hs => by
    have := gat_fold (q := q) (h.put (hs x List.mem_cons_self)) fun y hy => hs y (List.mem_cons_of_mem _ hy)
    rw [List.append_assoc] at this
    exact this
theorem gat_gath {rs : List P2} (hz : ∀ a ∈ rs, a ≠ (0, 0)) : Gat (rs.map turnP) (gath rs).1 := by
  have e : (gath rs).1 = (rs.map turnP).foldl putIn [] := by rw [List.foldl_map]; rfl
  rw [e]
  have := gat_fold (q := rs.map turnP) (p := []) (f := []) ⟨⟨List.Pairwise.nil, (fun a h => by cases h)⟩, (fun a h => by cases h), (fun a h => by cases h), (fun a h => by cases h)⟩ (fun x hx => by
    obtain ⟨a, ha, rfl⟩ := List.mem_map.mp hx
    exact turn_std (hz a ha))
  simpa using this
theorem moved_eq {rs : List P2} (hz : ∀ a ∈ rs, a ≠ (0, 0)) : (gath rs).2 = sumP (rs.filter fun r => !decide (r ∈ rs.map turnP)) := by
  show sumP (rs.filter fun r => !std r) = _
  congr 1
  apply List.filter_congr
  intro r hr
  cases hs : std r with
  | true =>
    have : r ∈ rs.map turnP := List.mem_map.mpr ⟨r, hr, by unfold turnP; rw [if_pos hs]⟩
    rw [decide_eq_true this]
  | false =>
    have : r ∉ rs.map turnP := fun z => by
      obtain ⟨a, ha, e⟩ := List.mem_map.mp z
      have := turn_std (hz a ha)
      rw [e, hs] at this
      cases this
    rw [decide_eq_false this]
theorem fold_len : ∀ (q f : List P2), (q.foldl putIn f).length ≤ f.length + q.length
  | [], f => by simp
  | x :: q, f => by
    have h1 := fold_len q (putIn f x)
    have h2 := putIn_len f x
    rw [List.foldl_cons, List.length_cons]
    omega
theorem gath_len (rs : List P2) : (gath rs).1.length ≤ rs.length := by
  have e : (gath rs).1 = (rs.map turnP).foldl putIn [] := by rw [List.foldl_map]; rfl
  rw [e]
  have := fold_len (rs.map turnP) []
  simpa using this
/-- the law's rows -/
structure RwOk (rs : List P2) : Prop where
  near : ∀ a ∈ rs, Sb.near a = true
  nz : ∀ a ∈ rs, a ≠ (0, 0)
theorem RwOk.set {rs : List P2} (h : RwOk rs) {k : Nat} {a : P2} (h1 : Sb.near a = true) (h2 : a ≠ (0, 0)) : RwOk (rs.set k a) :=
  ⟨fun x hx => by
    rcases List.mem_or_eq_of_mem_set hx with hx | rfl
    · exact h.near x hx
    · exact h1, fun x hx => by
    rcases List.mem_or_eq_of_mem_set hx with hx | rfl
    · exact h.nz x hx
    · exact h2⟩
theorem near_neg {a : P2} (h : near a = true) : near (negP a) = true := by
  have := near_iff.mp h
  refine near_iff.mpr ?_
  unfold negP
  simp only []
  omega
theorem neg_nz {a : P2} (h : a ≠ (0, 0)) : negP a ≠ (0, 0) := fun z => h (by
  have h1 : -a.1 = 0 := congrArg Prod.fst z
  have h2 : -a.2 = 0 := congrArg Prod.snd z
  exact Prod.ext (show a.1 = 0 by omega) (show a.2 = 0 by omega))
end Sb
namespace Sb
section
variable {gv : Nat → Option Int} {D : Nat → Option Df} {W n : Nat}
theorem evi_rng1 {Φ : Nat → List T → Option R} {env : Env} {e : E} {k : Nat} (h : ev gv Φ e env = some (.int (k : Int))) (hk : k ≤ 1000000) : evi gv Φ (.rng1 e) env = some ((List.range k).map fun i : Nat => T.int (i : Int)) := by
  have hr : rngOk 0 (k : Int) = true := decide_eq_true ⟨by omega, by omega, by omega, by omega, by show _ ≤ 1000000; omega⟩
  have e : ((k : Int) - 0).toNat = k := by omega
  simp only [evi, h, Option.bind_some, hr, if_true, rng_map, e, Int.zero_add]
theorem evi_rng2 {Φ : Nat → List T → Option R} {env : Env} {a e : E} {j k : Nat} (h0 : ev gv Φ a env = some (.int (j : Int))) (h : ev gv Φ e env = some (.int (k : Int))) (hj : j ≤ 1000000) (hk : k ≤ 1000000) : evi gv Φ (.rng2 a e) env = some ((List.range (k - j)).map fun i : Nat => T.int ((j + i : Nat) : Int)) := by
  have hr : rngOk (j : Int) (k : Int) = true := decide_eq_true ⟨by omega, by omega, by omega, by omega, by show _ ≤ 1000000; omega⟩
  have e : ((k : Int) - (j : Int)).toNat = k - j := by omega
  simp only [evi, h0, h, Option.bind_some, hr, if_true, rng_map, e, Int.natCast_add]
theorem ev_lenL {Φ : Nat → List T → Option R} {env : Env} {e : E} {l : List T} (h : ev gv Φ e env = some (.lst l)) : ev gv Φ (.blt .len (.cons e .nil)) env = some (.int (l.length : Int)) := ev_blt (evs_one h) rfl
theorem corners_ok [HasG gv 0 6] [HasG gv 1 20] [Has D i_is_whole d_is_whole] [Has D i_is_pair d_is_pair] [Has D i_span d_span] [Has D i_stands d_stands] [Has D i_is_near d_is_near] [Has D i_check_sticks d_check_sticks] [Has D i_added d_added] [Has D i_corners d_corners] {l : List P2} (h : OkS l) :
    Phi gv D W (n + 4) i_corners [.lst (l.map pt)] = some (.val (.lst ((lcorn l).map pt))) := by
  rw [phi_one, ← cornP_eq h.ne]
  have hL : (LIM : Nat) = 1000000 := rfl
  have h6 := h.len
  have hn0 : l.length ≠ 0 := fun z => h.ne (List.length_eq_zero_iff.mp z)
  refine runD_of rfl (o := .rt (.lst ((cornP l).map pt))) ?_ rfl
  refine execs_nx (env2 := [some (.lst (l.map pt)), none, none, none]) (exec_exp (evs_one rfl) (check_sticks_ok h)) ?_
  refine execs_nx (env2 := [some (.lst (l.map pt)), some (.lst ((List.range (l.length + 1)).map fun i => pt (sumP (l.take i)))), none, none]) (exec_set (ev_lc (List.range (l.length + 1)) (fun i : Nat => T.int (i : Int)) (fun i => pt (sumP (l.take i))) ?_ fun i _ => ⟨_, rfl, ev_call (evs_one (t := .lst ((l.take i).map pt)) ?_) (added_pts _)⟩)) ?_
  · exact evi_rng1 (k := l.length + 1) (ev_bin (x := .int ((l.map pt).length : Int)) (y := .int 1) (ev_lenL rfl) rfl (by rw [List.length_map]; rfl)) (by omega)
  · simp only [ev, evo, wipeE, List.set_cons_zero, List.set_cons_succ, List.getElem?_cons_zero, List.getElem?_cons_succ, Option.join_some, Option.bind_some, cutT, cut_to, List.map_take]
  refine execs_nx (env2 := [some (.lst (l.map pt)), some (.lst ((List.range (l.length + 1)).map fun i => pt (sumP (l.take i)))), some (.lst ((List.range (l.length - 1)).map fun i => pt (sumP (l.drop (1 + i))))), none]) (exec_set (ev_lc (List.range (l.length - 1)) (fun i : Nat => T.int (1 + (i : Int))) (fun i => pt (sumP (l.drop (1 + i)))) ?_ fun i _ => ⟨_, rfl, ev_call (evs_one (t := .lst ((l.drop (1 + i)).map pt)) ?_) (added_pts _)⟩)) ?_
  · have hr : rngOk 1 (l.length : Int) = true := decide_eq_true ⟨by omega, by omega, by omega, by omega, by omega⟩
    have e : ((l.length : Int) - 1).toNat = l.length - 1 := by omega
    simp only [evi, ev, evs, List.getElem?_cons_zero, Option.join_some, Option.bind_some, Option.map_some, bltT, List.length_map, hr, if_true, rng_map, e]
  · have e : (1 : Int) + (i : Int) = ((1 + i : Nat) : Int) := by omega
    simp only [ev, evo, wipeE, List.set_cons_zero, List.set_cons_succ, List.getElem?_cons_zero, List.getElem?_cons_succ, Option.join_some, Option.bind_some, e, cutT, cut_from, List.map_drop]
  refine execs_rt (exec_ret0 ?_)
  have := ev_cat (gv := gv) (Φ := Phi gv D W (n + 3)) (env := [some (.lst (l.map pt)), some (.lst ((List.range (l.length + 1)).map fun i => pt (sumP (l.take i)))), some (.lst ((List.range (l.length - 1)).map fun i => pt (sumP (l.drop (1 + i))))), none]) (a := .var 1) (b := .var 2) rfl rfl (by simp; omega)
  rw [this]
  unfold cornP
  rw [List.map_append, List.map_map, List.map_map]; rfl
end
end Sb
namespace Sb
theorem nmem_pts {c : List P2} {p : P2} (h : p ∈ c) : cmpT .nmem (pt p) (.lst (c.map pt)) = some (.bl false) := by
  have : ((c.map pt).any fun z => teq z (pt p)) = true := by
    rw [List.any_map, List.any_eq_true]
    exact ⟨p, h, by show teq (pt p) (pt p) = true; rw [teq_pt, decide_eq_true rfl]⟩
  simp only [cmpT, memT, dats_pts 59, dat_pt p 59, Bool.and_self, if_true, this, Option.map_some, Bool.not_true]
theorem ne_same {t : T} (h : dat 60 t = true) (h2 : teq t t = true) : cmpT .ne t t = some (.bl false) := by
  simp only [cmpT, h, h2, Bool.and_self, if_true, Bool.not_true]
theorem ne_pts (l : List P2) : cmpT .ne (.lst (l.map pt)) (.lst (l.map pt)) = some (.bl false) := ne_same (dat_pts 58 l) (by rw [teq_pts, decide_eq_true rfl])
theorem ne_pt (p : P2) : cmpT .ne (pt p) (pt p) = some (.bl false) := ne_same (dat_pt p 59) (by rw [teq_pt, decide_eq_true rfl])
theorem eq_pts (l : List P2) : cmpT .eq (.lst (l.map pt)) (.lst (l.map pt)) = some (.bl true) := by
  have h : teq (.lst (l.map pt)) (.lst (l.map pt)) = true := by rw [teq_pts, decide_eq_true rfl]
  simp only [cmpT, dat_pts 58 l, h, Bool.and_self, if_true]
end Sb
namespace Sb
section
variable {gv : Nat → Option Int} {D : Nat → Option Df} {n : Nat}
theorem exec_forI {Φ : Nat → List T → Option R} {W : Nat} {α : Type} {tg : Tg} {it : It} {b : SL} {env : Env} (l : List α) (g : α → T) (I : List α → Env → Prop) (hit : evi gv Φ it env = some (l.map g)) (h0 : I [] env)
    (step : ∀ pre x post env, l = pre ++ x :: post → I pre env → ∃ env1, bindT tg (g x) env = some env1 ∧ Runs gv Φ W b env1 (I (pre ++ [x]))) : ∃ env', exec gv Φ W (.for_ tg it b) env = some (.nx env') ∧ I l env' := by
  obtain ⟨env', h1, h2⟩ := forL_inv (b := fun t env => bindT tg t env) (f := fun env => execs gv Φ W b env) (g := g) I h0 (fun pre x post env e h => by
    obtain ⟨env1, h1, env2, h2, h3⟩ := step pre x post env e h
    exact ⟨env1, env2, h1, h2, h3⟩)
  exact ⟨env', by rw [exec, hit, Option.bind_some]; exact h1, h2⟩
theorem exec_froI {Φ : Nat → List T → Option R} {W : Nat} {α : Type} {tg : Tg} {i : Nat} {b : SL} {env : Env} (l : List α) (g : α → T) (I : List α → Env → Prop) (hit : slot env i = some (.lst (l.map g))) (h0 : I [] env)
    (step : ∀ pre x post env, l = pre ++ x :: post → I pre env → ∃ env1, bindT tg (g x) env = some env1 ∧ Runs gv Φ W b env1 (I (pre ++ [x]))) : ∃ env', exec gv Φ W (.fro tg i b) env = some (.nx (wipeE env' (tgSlots tg))) ∧ I l env' := by
  obtain ⟨env', h1, h2⟩ := forL_inv (b := fun t env => bindT tg t env) (f := fun env => execs gv Φ W b env) (g := g) I h0 (fun pre x post env e h => by
    obtain ⟨env1, h1, env2, h2, h3⟩ := step pre x post env e h
    exact ⟨env1, env2, h1, h2, h3⟩)
  exact ⟨env', by simp only [exec, hit, Option.bind_some, h1], h2⟩
theorem exec_putG {Φ : Nat → List T → Option R} {W : Nat} {env : Env} {i : Nat} {k e : E} {x q u z : T} (h1 : ev gv Φ e env = some u) (h2 : slot env i = some x) (h3 : ev gv Φ k env = some q) (h4 : putT x q u = some z) : exec gv Φ W (.put i k e) env = some (.nx (env.set i (some z))) := by
  rw [exec, h1, Option.bind_some, h2, Option.bind_some, h3, Option.bind_some, h4]; rfl
theorem exec_asgCG {Φ : Nat → List T → Option R} {W : Nat} {env : Env} {i f : Nat} {es : EL} {ts : List T} {t : T} (h : evs gv Φ es env = some ts) (hf : Φ f ts = some (.val t)) : exec gv Φ W (.asgC i f es) env = some (.nx (env.set i (some t))) := by
  rw [exec, h, Option.bind_some, hf]; rfl
theorem exec_asgF {Φ : Nat → List T → Option R} {W : Nat} {env : Env} {i : Nat} {e : E} {t : T} (h : ev gv Φ e env = some t) (hf : flat t = true) : exec gv Φ W (.asgF i e) env = some (.nx (env.set i (some t))) := by
  rw [exec, h, Option.bind_some, if_pos hf]
theorem put_pts {f : List P2} {k : Nat} (hk : k < f.length) (a : P2) : putT (.lst (f.map pt)) (.int (k : Int)) (pt a) = some (.lst ((f.set k a).map pt)) := by
  show (L2.ixN (f.map pt).length (k : Int)).map (fun j => T.lst ((f.map pt).set j (pt a))) = _
  have e : L2.ixN (f.map pt).length (k : Int) = some k := by
    unfold L2.ixN
    rw [List.length_map]
    simp [hk]
  rw [e, List.map_set]; rfl
theorem ev_at2 {Φ : Nat → List T → Option R} {env : Env} {a b : E} {f : List P2} {k : Nat} (ha : ev gv Φ a env = some (.lst (f.map pt))) (hb : ev gv Φ b env = some (.int (k : Int))) {p : P2} (hk : f[k]? = some p) : ev gv Φ (.sub a b) env = some (pt p) := ev_sub ha hb (subT_pts hk)
theorem mx_lt (a b : Int) : ((if (if b < 0 then -b else b) > (if a < 0 then -a else a) then (if b < 0 then -b else b) else (if a < 0 then -a else a)) < 11) ↔ (-11 < a ∧ a < 11 ∧ -11 < b ∧ b < 11) := by
  split <;> split <;> split <;> omega
theorem nm_pts (st : List P2) (r : P2) : cmpT .nmem (pt r) (.lst (st.map pt)) = some (.bl (!decide (r ∈ st))) := by
  have h1 : (dat 60 (pt r) && dats 60 (st.map pt)) = true := by rw [dats_pts]; rfl
  have h2 : (st.map pt).any (fun z => teq z (pt r)) = decide (r ∈ st) := by
    rw [List.any_map, Bool.eq_iff_iff, List.any_eq_true, decide_eq_true_eq]
    constructor
    · rintro ⟨x, hx, h⟩
      have h' : decide (x = r) = true := by rw [← teq_pt]; exact h
      have := of_decide_eq_true h'
      subst this
      exact hx
    · intro h
      exact ⟨r, h, by show teq (pt r) (pt r) = true; rw [teq_pt]; simp⟩
  simp only [cmpT, memT, h1, if_true, h2, Option.map_some]
theorem zip_next {l : List P2} (h : l.Pairwise fun a b => 0 < spn a b) : ∀ {q : P2 × P2}, q ∈ l.zip (l.drop 1) → 0 < spn q.1 q.2 := by
  induction l with
  | nil => intro q hq; cases hq
  | cons a l ih =>
    intro q hq
    cases l with
    | nil => cases hq
    | cons b l =>
      rw [List.drop_succ_cons, List.drop_zero, List.zip_cons_cons] at hq
      rcases List.mem_cons.mp hq with rfl | hq
      · exact (List.pairwise_cons.mp h).1 b List.mem_cons_self
      · refine ih (List.pairwise_cons.mp h).2 ?_
        rw [List.drop_succ_cons, List.drop_zero]
        exact hq
theorem law_rows_ok [Has D i_law_number d_law_number] [Has D i_law_pair d_law_pair] [Has D i_law_span d_law_span] [Has D i_law_sticks d_law_sticks] [Has D i_law_rows d_law_rows] {ns : List Int} {by_ : Int} (hb : ∀ z ∈ ns, B 1048576 z) (hy : 0 ≤ by_) (hy2 : by_ ≤ 100) :
    ∃ rs : List P2, Phi gv D 1000 (n + 3) i_law_rows [.scr ns, .int by_] = some (.val (.lst (rs.map pt))) ∧ RwOk rs ∧ rs ≠ [] ∧ rs.length ≤ 6 := by
  have hgood := lsticks_good ns by_ (most := 6) (far := 20) (by decide) (by decide)
  have hsl := law_sticks_ok (gv := gv) (D := D) (W := 1000) (n := n) (by_ := by_) (most := 6) (far := 20) hb hy hy2 (by omega) (by omega) (by omega) (by omega)
  generalize lsticks ns by_ 6 20 = l at *
  have hok : OkS l := hgood.oks (by omega) (by decide)
  have hll : l.length ≤ 6 := hok.len
  have hR : RwOk l := ⟨hok.near, fun a ha z => by
    have := std_iff.mp (hok.srt.2 a ha)
    rw [z] at this; simp at this⟩
  have hcb := lcells_B (d := 4) (B.of 1048576 (by show (4 : Nat) < _; exact Nat.lt_of_lt_of_le (by decide : 4 < 2 ^ 3) (Nat.pow_le_pow_right (by omega) (by omega)))) hb
  have hcl := lcells_len 4 ns
  have hcn := lcells_ne 4 ns
  have hcell : ∀ x2 x4 x5, ev gv (Phi gv D 1000 (n + 2)) (.ite (.cmp .ne (.var 0) (.lst (.nil))) (.cut (.var 0) (.no) (.so (.cint 63))) (.lst (.cons (.cint 4) .nil))) [some (.scr ns), some (.int by_), x2, none, x4, x5] = some (.lst ((lcells 4 ns).map .int)) := by
    intro x2 x4 x5
    have d1 : (dat 60 (.scr ns) && dat 60 (.lst [])) = true := rfl
    have c63 : cutL ns none (some 63) = ns.take 63 := cut_to ns 63
    simp only [ev, evs, evo, List.getElem?_cons_zero, Option.join_some, Option.bind_some, cmpT, List.length_nil, Option.map_some, Nat.zero_le, if_true, d1, teq_scr]
    unfold lcells
    by_cases h : ns = []
    · subst h; rfl
    · rw [if_neg h, decide_eq_false h]
      simp only [Bool.not_false, cutT, c63]
  generalize lcells 4 ns = cells at *
  have hcl0 : 0 < (cells.length : Int) := by
    cases cells with
    | nil => exact absurd rfl hcn
    | cons a l => simp
  have hfor : ∃ env', exec gv (Phi gv D 1000 (n + 2)) 1000 (.for_ (.nm 4) (.rng1 (.blt .len (.cons (.var 2) .nil))) (.cons (.asg (.nm 5) (.call i_law_number (.cons (.sub (.var 3) (.bin .mod (.var 4) (.blt .len (.cons (.var 3) .nil)))) (.cons (.bin .add (.var 4) (.var 1)) (.cons (.cint 11) .nil))))) (.cons (.iff (.cmp .eq (.bin .mod (.var 5) (.cint 3)) (.cint 0)) (.cons (.put 2 (.var 4) (.tup (.cons (.neg (.sub (.sub (.var 2) (.var 4)) (.cint 0))) (.cons (.neg (.sub (.sub (.var 2) (.var 4)) (.cint 1))) .nil)))) .nil) (.nil)) (.cons (.iff (.and (.cmp .eq (.bin .mod (.var 5) (.cint 5)) (.cint 0)) (.and (.cmp .gt (.var 4) (.cint 0)) (.cmp .lt (.blt .max (.cons (.blt .abs (.cons (.sub (.sub (.var 2) (.bin .sub (.var 4) (.cint 1))) (.cint 0)) .nil)) (.cons (.blt .abs (.cons (.sub (.sub (.var 2) (.bin .sub (.var 4) (.cint 1))) (.cint 1)) .nil)) .nil))) (.cint 11)))) (.cons (.put 2 (.var 4) (.tup (.cons (.bin .mul (.neg (.cint 2)) (.sub (.sub (.var 2) (.bin .sub (.var 4) (.cint 1))) (.cint 0))) (.cons (.bin .mul (.neg (.cint 2)) (.sub (.sub (.var 2) (.bin .sub (.var 4) (.cint 1))) (.cint 1))) .nil)))) .nil) (.nil)) .nil))))
      [some (.scr ns), some (.int by_), some (.lst (l.map pt)), some (.lst (cells.map .int)), none, none] = some (.nx env') ∧ ∃ f x4 x5, env' = [some (.scr ns), some (.int by_), some (.lst (f.map pt)), some (.lst (cells.map .int)), x4, x5] ∧ RwOk f ∧ f.length = l.length := by
    refine exec_forI (List.range l.length) (fun i : Nat => T.int (i : Int)) (fun pre env => ∃ f x4 x5, env = [some (.scr ns), some (.int by_), some (.lst (f.map pt)), some (.lst (cells.map .int)), x4, x5] ∧ RwOk f ∧ f.length = l.length) (evi_rng1 (k := l.length) ((ev_lenL (e := .var 2) (l := l.map pt) rfl).trans (by rw [List.length_map])) (by omega)) ⟨l, none, none, rfl, hR, rfl⟩ ?_
    rintro pre k post env hp ⟨f, x4, x5, rfl, hf, hfl⟩
    have hk : k < l.length := by
      have : k ∈ List.range l.length := by rw [hp]; simp
      simpa using this
    refine ⟨[some (.scr ns), some (.int by_), some (.lst (f.map pt)), some (.lst (cells.map .int)), some (.int (k : Int)), x5], rfl, ?_⟩
    obtain ⟨hc1, hc2⟩ := cellAt_mem hcn (k : Int)
    have hcb' := (hcb _ hc1).mono (by decide : 1048576 ≤ 1048600)
    have hnum := law_number_ok (gv := gv) (D := D) (W := 1000) (n := n + 1) hcb' (B.of 20 (by omega) : B 20 ((k : Int) + by_)) (B.of 1048600 (by show (11 : Nat) < _; exact Nat.lt_of_lt_of_le (by decide : 11 < 2 ^ 4) (Nat.pow_le_pow_right (by omega) (by omega))) : B 1048600 11)
    generalize lnum (cellAt cells (k : Int)) ((k : Int) + by_) 11 = m at *
    refine runs_nx (env2 := [some (.scr ns), some (.int by_), some (.lst (f.map pt)), some (.lst (cells.map .int)), some (.int (k : Int)), some (.int m)]) (exec_set (ev_call (ts := [.int (cellAt cells (k : Int)), .int ((k : Int) + by_), .int 11]) ?_ hnum)) ?_
    · simp only [ev, evs, List.getElem?_cons_zero, List.getElem?_cons_succ, Option.join_some, Option.bind_some, Option.map_some, addI, bltT, List.length_map, modK _ hcl0, subT, atI_map, hc2]
    -- turned about
    have h1 : ∃ f1, exec gv (Phi gv D 1000 (n + 2)) 1000 (.iff (.cmp .eq (.bin .mod (.var 5) (.cint 3)) (.cint 0)) (.cons (.put 2 (.var 4) (.tup (.cons (.neg (.sub (.sub (.var 2) (.var 4)) (.cint 0))) (.cons (.neg (.sub (.sub (.var 2) (.var 4)) (.cint 1))) .nil)))) .nil) (.nil)) [some (.scr ns), some (.int by_), some (.lst (f.map pt)), some (.lst (cells.map .int)), some (.int (k : Int)), some (.int m)] =
        some (.nx [some (.scr ns), some (.int by_), some (.lst (f1.map pt)), some (.lst (cells.map .int)), some (.int (k : Int)), some (.int m)]) ∧ RwOk f1 ∧ f1.length = l.length := by
      have hc : ev gv (Phi gv D 1000 (n + 2)) (.cmp .eq (.bin .mod (.var 5) (.cint 3)) (.cint 0)) [some (.scr ns), some (.int by_), some (.lst (f.map pt)), some (.lst (cells.map .int)), some (.int (k : Int)), some (.int m)] = some (.bl (decide (m % 3 = 0))) := ev_cmp (x := .int (m % 3)) (y := .int 0) (ev_bin rfl rfl (modK _ (by decide))) rfl (by simp only [cmpT, teq_int]; rfl)
      by_cases h : m % 3 = 0
      · rw [decide_eq_true h] at hc
        have hfk : f[k]? = some f[k] := List.getElem?_eq_getElem (by omega)
        have hmem : f[k] ∈ f := List.getElem_mem _
        refine ⟨f.set k (negP f[k]), ?_, hf.set (near_neg (hf.near _ hmem)) (neg_nz (hf.nz _ hmem)), by simp [hfl]⟩
        rw [exec_if hc, if_pos rfl]
        generalize f[k] = p at hfk ⊢
        have e0 : ev gv (Phi gv D 1000 (n + 2)) (.neg (.sub (.sub (.var 2) (.var 4)) (.cint 0))) [some (.scr ns), some (.int by_), some (.lst (f.map pt)), some (.lst (cells.map .int)), some (.int (k : Int)), some (.int m)] = some (.int (-p.1)) := by rw [ev, ev_sub (ev_at2 rfl rfl hfk) rfl (sub_pt0 p)]; rfl
        have e1 : ev gv (Phi gv D 1000 (n + 2)) (.neg (.sub (.sub (.var 2) (.var 4)) (.cint 1))) [some (.scr ns), some (.int by_), some (.lst (f.map pt)), some (.lst (cells.map .int)), some (.int (k : Int)), some (.int m)] = some (.int (-p.2)) := by rw [ev, ev_sub (ev_at2 rfl rfl hfk) rfl (sub_pt1 p)]; rfl
        exact execs_nx (exec_putG (u := pt (negP p)) (ev_tup (ts := [.int (-p.1), .int (-p.2)]) (evs_cons e0 (evs_one e1)) (by show 2 ≤ 1000000; omega)) rfl rfl (put_pts (by omega) _)) rfl
      · rw [decide_eq_false h] at hc
        exact ⟨f, by rw [exec_if hc]; rfl, hf, hfl⟩
    obtain ⟨f1, h1, hf1, hfl1⟩ := h1
    refine runs_nx h1 ?_
    clear h1 hf hfl
    -- made twice the one ahead
    have h2 : ∃ f2, exec gv (Phi gv D 1000 (n + 2)) 1000 (.iff (.and (.cmp .eq (.bin .mod (.var 5) (.cint 5)) (.cint 0)) (.and (.cmp .gt (.var 4) (.cint 0)) (.cmp .lt (.blt .max (.cons (.blt .abs (.cons (.sub (.sub (.var 2) (.bin .sub (.var 4) (.cint 1))) (.cint 0)) .nil)) (.cons (.blt .abs (.cons (.sub (.sub (.var 2) (.bin .sub (.var 4) (.cint 1))) (.cint 1)) .nil)) .nil))) (.cint 11)))) (.cons (.put 2 (.var 4) (.tup (.cons (.bin .mul (.neg (.cint 2)) (.sub (.sub (.var 2) (.bin .sub (.var 4) (.cint 1))) (.cint 0))) (.cons (.bin .mul (.neg (.cint 2)) (.sub (.sub (.var 2) (.bin .sub (.var 4) (.cint 1))) (.cint 1))) .nil)))) .nil) (.nil)) [some (.scr ns), some (.int by_), some (.lst (f1.map pt)), some (.lst (cells.map .int)), some (.int (k : Int)), some (.int m)] =
        some (.nx [some (.scr ns), some (.int by_), some (.lst (f2.map pt)), some (.lst (cells.map .int)), some (.int (k : Int)), some (.int m)]) ∧ RwOk f2 ∧ f2.length = l.length := by
      have hc : ev gv (Phi gv D 1000 (n + 2)) (.cmp .eq (.bin .mod (.var 5) (.cint 5)) (.cint 0)) [some (.scr ns), some (.int by_), some (.lst (f1.map pt)), some (.lst (cells.map .int)), some (.int (k : Int)), some (.int m)] = some (.bl (decide (m % 5 = 0))) := ev_cmp (x := .int (m % 5)) (y := .int 0) (ev_bin rfl rfl (modK _ (by decide))) rfl (by simp only [cmpT, teq_int]; rfl)
      have hz : ev gv (Phi gv D 1000 (n + 2)) (.cmp .gt (.var 4) (.cint 0)) [some (.scr ns), some (.int by_), some (.lst (f1.map pt)), some (.lst (cells.map .int)), some (.int (k : Int)), some (.int m)] = some (.bl (decide (0 < (k : Int)))) := rfl
      by_cases h : m % 5 = 0 ∧ 0 < k
      · rw [decide_eq_true h.1] at hc
        rw [decide_eq_true (by omega)] at hz
        have hfk : f1[k - 1]? = some (f1[k - 1]'(by omega)) := List.getElem?_eq_getElem (by omega)
        have hmem : (f1[k - 1]'(by omega)) ∈ f1 := List.getElem_mem _
        have hne := hf1.nz _ hmem
        generalize (f1[k - 1]'(by omega)) = p at hfk hmem hne
        have hks : ((k : Int) - 1) = ((k - 1 : Nat) : Int) := by omega
        have hat : ev gv (Phi gv D 1000 (n + 2)) (.sub (.var 2) (.bin .sub (.var 4) (.cint 1))) [some (.scr ns), some (.int by_), some (.lst (f1.map pt)), some (.lst (cells.map .int)), some (.int (k : Int)), some (.int m)] = some (pt p) := ev_at2 (k := k - 1) rfl (by rw [← hks]; rfl) hfk
        have hm1 : ev gv (Phi gv D 1000 (n + 2)) (.cmp .lt (.blt .max (.cons (.blt .abs (.cons (.sub (.sub (.var 2) (.bin .sub (.var 4) (.cint 1))) (.cint 0)) .nil)) (.cons (.blt .abs (.cons (.sub (.sub (.var 2) (.bin .sub (.var 4) (.cint 1))) (.cint 1)) .nil)) .nil))) (.cint 11)) [some (.scr ns), some (.int by_), some (.lst (f1.map pt)), some (.lst (cells.map .int)), some (.int (k : Int)), some (.int m)] = some (.bl (decide ((if (if p.2 < 0 then -p.2 else p.2) > (if p.1 < 0 then -p.1 else p.1) then (if p.2 < 0 then -p.2 else p.2) else (if p.1 < 0 then -p.1 else p.1)) < 11))) :=
          ev_cmp (ev_blt (evs_cons (ev_blt (evs_one (ev_sub hat rfl (sub_pt0 p))) rfl) (evs_one (ev_blt (evs_one (ev_sub hat rfl (sub_pt1 p))) rfl))) rfl) rfl rfl
        have hcc := ev_and hc (fun _ => ev_and hz (fun _ => hm1))
        by_cases hq : (-11 < p.1 ∧ p.1 < 11 ∧ -11 < p.2 ∧ p.2 < 11)
        · rw [decide_eq_true ((mx_lt p.1 p.2).mpr hq)] at hcc
          have hpsm : SmP p := ⟨sm64 (by omega) (by omega), sm64 (by omega) (by omega)⟩
          have h2s : Sm (-2) := sm64 (by decide) (by decide)
          refine ⟨f1.set k (-2 * p.1, -2 * p.2), ?_, hf1.set (near_iff.mpr (by simp only []; omega)) (fun z => hne (by
            have z1 : -2 * p.1 = 0 := congrArg Prod.fst z
            have z2 : -2 * p.2 = 0 := congrArg Prod.snd z
            exact Prod.ext (show p.1 = 0 by omega) (show p.2 = 0 by omega))), by simp [hfl1]⟩
          rw [exec_if hcc, if_pos (show (true && (true && true)) = true from rfl)]
          exact execs_nx (exec_putG (u := pt (-2 * p.1, -2 * p.2)) (ev_tup (ts := [.int (-2 * p.1), .int (-2 * p.2)]) (evs_cons (ev_bin rfl (ev_sub hat rfl (sub_pt0 p)) (mulK h2s hpsm.1)) (evs_one (ev_bin rfl (ev_sub hat rfl (sub_pt1 p)) (mulK h2s hpsm.2)))) (by show 2 ≤ 1000000; omega)) rfl rfl (put_pts (by omega) _)) rfl
        · rw [decide_eq_false (fun z => hq ((mx_lt p.1 p.2).mp z))] at hcc
          exact ⟨f1, by rw [exec_if hcc]; rfl, hf1, hfl1⟩
      · refine ⟨f1, ?_, hf1, hfl1⟩
        have hcc : ev gv (Phi gv D 1000 (n + 2)) (.and (.cmp .eq (.bin .mod (.var 5) (.cint 5)) (.cint 0)) (.and (.cmp .gt (.var 4) (.cint 0)) (.cmp .lt (.blt .max (.cons (.blt .abs (.cons (.sub (.sub (.var 2) (.bin .sub (.var 4) (.cint 1))) (.cint 0)) .nil)) (.cons (.blt .abs (.cons (.sub (.sub (.var 2) (.bin .sub (.var 4) (.cint 1))) (.cint 1)) .nil)) .nil))) (.cint 11)))) [some (.scr ns), some (.int by_), some (.lst (f1.map pt)), some (.lst (cells.map .int)), some (.int (k : Int)), some (.int m)] = some (.bl false) := by
          by_cases h5 : m % 5 = 0
          · have hk0 : ¬ 0 < (k : Int) := fun z => h ⟨h5, by omega⟩
            rw [decide_eq_true h5] at hc
            rw [decide_eq_false hk0] at hz
            exact ev_and (q := false) hc (fun _ => ev_and (q := false) hz (fun z => nomatch z))
          · rw [decide_eq_false h5] at hc
            exact ev_and (q := false) hc (fun z => nomatch z)
        rw [exec_if hcc]; rfl
    obtain ⟨f2, h2, hf2, hfl2⟩ := h2
    exact runs_nx h2 (runs_nil ⟨f2, _, _, rfl, hf2, hfl2⟩)
  obtain ⟨env', hfor, f, x4, x5, rfl, hf, hfl⟩ := hfor
  have hfin : execs gv (Phi gv D 1000 (n + 2)) 1000 (.cons (.ret 0 (.pure (.ite (.cmp .eq (.bin .mod (.blt .len (.cons (.var 2) .nil)) (.cint 2)) (.cint 1)) (.rev (.var 2)) (.var 2)))) .nil) [some (.scr ns), some (.int by_), some (.lst (f.map pt)), some (.lst (cells.map .int)), x4, x5] = some (.rt (.lst ((if (f.length : Int) % 2 = 1 then f.reverse else f).map pt))) := by
    refine execs_rt (exec_ret0 ?_)
    have hc : ev gv (Phi gv D 1000 (n + 2)) (.cmp .eq (.bin .mod (.blt .len (.cons (.var 2) .nil)) (.cint 2)) (.cint 1)) [some (.scr ns), some (.int by_), some (.lst (f.map pt)), some (.lst (cells.map .int)), x4, x5] = some (.bl (decide ((f.length : Int) % 2 = 1))) := ev_cmp (x := .int ((f.length : Int) % 2)) (y := .int 1) (ev_bin (x := .int (f.length : Int)) (by rw [ev_lenL rfl, List.length_map]) rfl (modK _ (by decide))) rfl (by simp only [cmpT, teq_int]; rfl)
    rw [ev_ite hc]
    by_cases h : (f.length : Int) % 2 = 1
    · rw [decide_eq_true h, if_pos rfl, if_pos h, List.map_reverse]; rfl
    · rw [decide_eq_false h, if_neg Bool.false_ne_true, if_neg h]; rfl
  have hne : f ≠ [] := fun z => hok.ne (List.length_eq_zero_iff.mp (by rw [← hfl, z]; rfl))
  refine ⟨if (f.length : Int) % 2 = 1 then f.reverse else f, ?_, ?_, ?_, ?_⟩
  · rw [phi_one]
    refine runD_of rfl (o := .rt (.lst ((if (f.length : Int) % 2 = 1 then f.reverse else f).map pt))) ?_ rfl
    refine execs_nx (exec_set (ev_call (ts := [.scr ns, .int by_, .int 6, .int 20]) rfl hsl)) ?_
    exact execs_nx (exec_set (hcell _ _ _)) (execs_nx hfor hfin)
  · split
    · exact ⟨fun a ha => hf.near a (List.mem_reverse.mp ha), fun a ha => hf.nz a (List.mem_reverse.mp ha)⟩
    · exact hf
  · split
    · simpa using hne
    · exact hne
  · split
    · rw [List.length_reverse]; omega
    · omega
theorem k01_run [HasG gv 0 6] [HasG gv 1 20] [Has D i_is_whole d_is_whole] [Has D i_is_pair d_is_pair] [Has D i_span d_span] [Has D i_stands d_stands] [Has D i_is_near d_is_near] [Has D i_added d_added] [Has D i_put_in d_put_in] [Has D i_gathered d_gathered] [Has D i_law_number d_law_number] [Has D i_law_span d_law_span] [Has D i_law_pair d_law_pair] [Has D i_law_sticks d_law_sticks] [Has D i_law_sum d_law_sum] [Has D i_law_rows d_law_rows] [Has D i_law d_law] {ns : List Int} (hb : ∀ z ∈ ns, B 1048576 z) :
    Phi gv D 1000 (n + 4) i_law [.scr ns] = some (.val (.bl true)) := by
  rw [phi_one]
  have hL : (LIM : Nat) = 1000000 := rfl
  refine runD_of rfl (o := .rt (.bl true)) ?_ rfl

  refine efor (List.range 3) (fun i : Nat => T.int (0 + (i : Int))) (fun pre env => ∃ x1 x2 x3 x4 x5 x6 x7 x8 x9 x10 x11 x12 x13, env = [some (.scr ns), x1, x2, x3, x4, x5, x6, x7, x8, x9, x10, x11, x12, x13]) rfl ⟨none, none, none, none, none, none, none, none, none, none, none, none, none, rfl⟩ ?_ ?_
  · rintro pre by_ post env hp ⟨x1, x2, x3, x4, x5, x6, x7, x8, x9, x10, x11, x12, x13, rfl⟩
    have hby : by_ < 3 := by
      have : by_ ∈ List.range 3 := by rw [hp]; simp
      simpa using this
    refine ⟨[some (.scr ns), some (.int (by_ : Int)), x2, x3, x4, x5, x6, x7, x8, x9, x10, x11, x12, x13], by rw [Int.zero_add]; rfl, ?_⟩
    obtain ⟨rs, hrows, hR, hne, hlen⟩ := law_rows_ok (gv := gv) (D := D) (n := n) (by_ := (by_ : Int)) hb (by omega) (by omega)
    have hG := gat_gath hR.nz
    have hgl := gath_len rs
    have hmv := moved_eq hR.nz
    have hga := gathered_ok (gv := gv) (D := D) (W := 1000) (n := n) hne hlen hR.near hR.nz
    have hst : ∀ a ∈ rs.map turnP, SmP a := fun a ha => by
      obtain ⟨x, hx, rfl⟩ := List.mem_map.mp ha
      unfold turnP
      split
      · exact near_sm (hR.near x hx)
      · exact near_sm (near_neg (hR.near x hx))
    have hlb : ∀ s ∈ (gath rs).1, SmP s := fun s hs => by
      rw [(hG.mine s hs).2]
      have h1 : ∀ a ∈ alg (rs.map turnP) s, Bd 20 a := fun a ha => by
        obtain ⟨x, hx, rfl⟩ := List.mem_map.mp (List.mem_filter.mp ha).1
        unfold turnP
        split
        · exact near_iff.mp (hR.near x hx)
        · exact near_iff.mp (near_neg (hR.near x hx))
      have h2 := sumP_bd h1
      have h3 : (alg (rs.map turnP) s).length ≤ (rs.map turnP).length := List.length_filter_le _ _
      rw [List.length_map] at h3
      exact (h2.mono (k := 1000) (by omega)).sm (by omega)
    generalize (gath rs).1 = l at *
    generalize (gath rs).2 = mv at *

    refine runs_nx (env2 := [some (.scr ns), some (.int (by_ : Int)), some (.lst (rs.map pt)), x3, x4, x5, x6, x7, x8, x9, x10, x11, x12, x13]) (exec_set (ev_call (ts := [.scr ns, .int (by_ : Int)]) rfl hrows)) ?_

    refine runs_nx (env2 := [some (.scr ns), some (.int (by_ : Int)), some (.lst (rs.map pt)), some (.lst (rs.map pt)), x4, x5, x6, x7, x8, x9, x10, x11, x12, x13]) (exec_set (ev_blt (evs_one rfl) rfl)) ?_
    have hstand : ev gv (Phi gv D 1000 (n + 3)) (.lc [8] (.nm 8) (.seq (.var 2)) (.no) (.ite (.or (.cmp .gt (.sub (.var 8) (.cint 1)) (.cint 0)) (.and (.cmp .eq (.sub (.var 8) (.cint 1)) (.cint 0)) (.cmp .gt (.sub (.var 8) (.cint 0)) (.cint 0)))) (.var 8) (.tup (.cons (.neg (.sub (.var 8) (.cint 0))) (.cons (.neg (.sub (.var 8) (.cint 1))) .nil))))) [some (.scr ns), some (.int (by_ : Int)), some (.lst (rs.map pt)), some (.lst (rs.map pt)), x4, x5, x6, x7, x8, x9, x10, x11, x12, x13] = some (.lst ((rs.map turnP).map pt)) := by
      refine (ev_lc rs pt (fun r => pt (turnP r)) rfl fun r hr => ⟨[some (.scr ns), some (.int (by_ : Int)), some (.lst (rs.map pt)), some (.lst (rs.map pt)), x4, x5, x6, x7, some (pt r), x9, x10, x11, x12, x13], rfl, ?_⟩).trans (by rw [List.map_map]; rfl)
      have h1 : ev gv (Phi gv D 1000 (n + 3)) (.cmp .gt (.sub (.var 8) (.cint 1)) (.cint 0)) [some (.scr ns), some (.int (by_ : Int)), some (.lst (rs.map pt)), some (.lst (rs.map pt)), x4, x5, x6, x7, some (pt r), x9, x10, x11, x12, x13] = some (.bl (decide (0 < r.2))) := ev_cmp (ev_sub rfl rfl (sub_pt1 r)) rfl rfl
      have h2 : ev gv (Phi gv D 1000 (n + 3)) (.cmp .eq (.sub (.var 8) (.cint 1)) (.cint 0)) [some (.scr ns), some (.int (by_ : Int)), some (.lst (rs.map pt)), some (.lst (rs.map pt)), x4, x5, x6, x7, some (pt r), x9, x10, x11, x12, x13] = some (.bl (decide (r.2 = 0))) := ev_cmp (x := .int r.2) (y := .int 0) (ev_sub rfl rfl (sub_pt1 r)) rfl (by simp only [cmpT, teq_int]; rfl)
      have h3 : ev gv (Phi gv D 1000 (n + 3)) (.cmp .gt (.sub (.var 8) (.cint 0)) (.cint 0)) [some (.scr ns), some (.int (by_ : Int)), some (.lst (rs.map pt)), some (.lst (rs.map pt)), x4, x5, x6, x7, some (pt r), x9, x10, x11, x12, x13] = some (.bl (decide (0 < r.1))) := ev_cmp (ev_sub rfl rfl (sub_pt0 r)) rfl rfl
      have hc := ev_or (q := decide (r.2 = 0) && decide (0 < r.1)) h1 (fun _ => ev_and h2 (fun _ => h3))
      rw [ev_ite hc]
      unfold turnP
      show (if std r = true then _ else _) = some (pt (if std r = true then r else negP r))
      by_cases hs : std r = true
      · rw [if_pos hs, if_pos hs]; rfl
      · rw [if_neg hs, if_neg hs]
        have e0 : ev gv (Phi gv D 1000 (n + 3)) (.neg (.sub (.var 8) (.cint 0))) [some (.scr ns), some (.int (by_ : Int)), some (.lst (rs.map pt)), some (.lst (rs.map pt)), x4, x5, x6, x7, some (pt r), x9, x10, x11, x12, x13] = some (.int (-r.1)) := by rw [ev, ev_sub rfl rfl (sub_pt0 r)]; rfl
        have e1 : ev gv (Phi gv D 1000 (n + 3)) (.neg (.sub (.var 8) (.cint 1))) [some (.scr ns), some (.int (by_ : Int)), some (.lst (rs.map pt)), some (.lst (rs.map pt)), x4, x5, x6, x7, some (pt r), x9, x10, x11, x12, x13] = some (.int (-r.2)) := by rw [ev, ev_sub rfl rfl (sub_pt1 r)]; rfl
        exact ev_tup (ts := [.int (-r.1), .int (-r.2)]) (evs_cons e0 (evs_one e1)) (by show 2 ≤ 1000000; omega)
    generalize hsd : rs.map turnP = st at *

    refine runs_nx (env2 := [some (.scr ns), some (.int (by_ : Int)), some (.lst (rs.map pt)), some (.lst (rs.map pt)), some (.lst (st.map pt)), x5, x6, x7, x8, x9, x10, x11, x12, x13]) (exec_set hstand) ?_
    refine runs_for (List.range 2) (fun i : Nat => T.int (0 + (i : Int))) (fun pre env => ∃ x5 x6 x7 x8 x9 x10 x11 x12 x13, env = [some (.scr ns), some (.int (by_ : Int)), some (.lst (rs.map pt)), some (.lst (rs.map pt)), some (.lst (st.map pt)), x5, x6, x7, x8, x9, x10, x11, x12, x13]) rfl ⟨_, _, _, _, _, _, _, _, _, rfl⟩ ?_ ?_
    · rintro pre2 ag post2 env _ ⟨x5, x6, x7, x8, x9, x10, x11, x12, x13, rfl⟩
      refine ⟨[some (.scr ns), some (.int (by_ : Int)), some (.lst (rs.map pt)), some (.lst (rs.map pt)), some (.lst (st.map pt)), some (.int (0 + (ag : Int))), x6, x7, x8, x9, x10, x11, x12, x13], rfl, ?_⟩

      refine runs_nx (env2 := [some (.scr ns), some (.int (by_ : Int)), some (.lst (rs.map pt)), some (.lst (rs.map pt)), some (.lst (st.map pt)), some (.int (0 + (ag : Int))), some (.tup [.lst (l.map pt), pt mv]), x7, x8, x9, x10, x11, x12, x13]) (exec_asgCG (ts := [.lst (rs.map pt)]) rfl hga) ?_
      refine runs_nx (env2 := [some (.scr ns), some (.int (by_ : Int)), some (.lst (rs.map pt)), some (.lst (rs.map pt)), some (.lst (st.map pt)), some (.int (0 + (ag : Int))), some (.tup [.lst (l.map pt), pt mv]), x7, x8, x9, x10, x11, x12, x13]) (exec_skip (ev_or (p := false) (q := false) rfl fun _ => ev_or (p := false) (q := false) rfl fun _ => ev_or (p := false) (q := false) rfl fun _ => ev_cmp (x := .lst (rs.map pt)) (y := .lst (rs.map pt)) rfl rfl (ne_pts rs))) ?_

      refine runs_nx (env2 := [some (.scr ns), some (.int (by_ : Int)), some (.lst (rs.map pt)), some (.lst (rs.map pt)), some (.lst (st.map pt)), some (.int (0 + (ag : Int))), none, x7, x8, some (.lst (l.map pt)), some (pt mv), x11, x12, x13]) rfl ?_
      have hd : ev gv (Phi gv D 1000 (n + 3)) (.lc [8] (.nm 8) (.seq (.var 2)) (.so (.cmp .nmem (.var 8) (.var 4))) (.var 8)) [some (.scr ns), some (.int (by_ : Int)), some (.lst (rs.map pt)), some (.lst (rs.map pt)), some (.lst (st.map pt)), some (.int (0 + (ag : Int))), none, x7, x8, some (.lst (l.map pt)), some (pt mv), x11, x12, x13] = some (.lst ((rs.filter fun r => !decide (r ∈ st)).map pt)) := by
        refine ev_lcif rs pt pt (fun r => !decide (r ∈ st)) rfl fun r hr => ⟨[some (.scr ns), some (.int (by_ : Int)), some (.lst (rs.map pt)), some (.lst (rs.map pt)), some (.lst (st.map pt)), some (.int (0 + (ag : Int))), none, x7, some (pt r), some (.lst (l.map pt)), some (pt mv), x11, x12, x13], rfl, ev_cmp (x := pt r) (y := .lst (st.map pt)) rfl rfl (nm_pts st r), fun _ => rfl⟩
      refine runs_nx (env2 := [some (.scr ns), some (.int (by_ : Int)), some (.lst (rs.map pt)), some (.lst (rs.map pt)), some (.lst (st.map pt)), some (.int (0 + (ag : Int))), none, x7, x8, some (.lst (l.map pt)), some (pt mv), x11, x12, x13]) (exec_skip (ev_or (p := false) (q := false) (ev_cmp (x := pt mv) (y := pt mv) rfl (ev_call (ts := [.lst ((rs.filter fun r => !decide (r ∈ st)).map pt)]) (evs_one hd) (by rw [law_sum_ok, ← hmv])) (ne_pt mv)) fun _ => rfl)) ?_
      have he : ev gv (Phi gv D 1000 (n + 3)) (.blt .any (.cons (.lc [12, 13] (.tp [12, 13]) (.zip (.var 9) (.cut (.var 9) (.so (.cint 1)) (.no))) (.no) (.cmp .le (.call i_law_span (.cons (.var 12) (.cons (.var 13) .nil))) (.cint 0))) .nil)) [some (.scr ns), some (.int (by_ : Int)), some (.lst (rs.map pt)), some (.lst (rs.map pt)), some (.lst (st.map pt)), some (.int (0 + (ag : Int))), none, x7, x8, some (.lst (l.map pt)), some (pt mv), x11, x12, x13] = some (.bl ((l.zip (l.drop 1)).any fun q => decide (spn q.1 q.2 ≤ 0))) := by
        refine ev_blt (evs_one (ev_lc (l.zip (l.drop 1)) (fun q => T.tup [pt q.1, pt q.2]) (fun q => T.bl (decide (spn q.1 q.2 ≤ 0))) ?_ fun q hq => ⟨[some (.scr ns), some (.int (by_ : Int)), some (.lst (rs.map pt)), some (.lst (rs.map pt)), some (.lst (st.map pt)), some (.int (0 + (ag : Int))), none, x7, x8, some (.lst (l.map pt)), some (pt mv), x11, some (pt q.1), some (pt q.2)], rfl, ?_⟩)) (any_mapT _ _)
        · show some (zipT (l.map pt) (cutL (l.map pt) (some 1) none)) = _
          rw [cut_map, cut_1, zip_map]
        · have hm := List.of_mem_zip hq
          exact ev_cmp (ev_call (ts := [pt q.1, pt q.2]) rfl (law_span_pt (hlb _ hm.1) (hlb _ (List.mem_of_mem_drop hm.2)))) rfl rfl
      have he0 : ((l.zip (l.drop 1)).any fun q => decide (spn q.1 q.2 ≤ 0)) = false := by
        rw [List.any_eq_false]
        intro q hq z
        have := zip_next hG.srt.1 hq
        have z' : spn q.1 q.2 ≤ 0 := by simpa using z
        omega
      rw [he0] at he
      refine runs_nx (env2 := [some (.scr ns), some (.int (by_ : Int)), some (.lst (rs.map pt)), some (.lst (rs.map pt)), some (.lst (st.map pt)), some (.int (0 + (ag : Int))), none, x7, x8, some (.lst (l.map pt)), some (pt mv), x11, x12, x13]) (exec_skip he) ?_
      -- each stick
      have hfro := exec_froI (gv := gv) (Φ := Phi gv D 1000 (n + 3)) (W := 1000) (tg := .nm 7) (i := 9) (b := .cons (.asgF 11 (.lc [8] (.nm 8) (.seq (.var 4)) (.so (.cmp .eq (.call i_law_span (.cons (.var 7) (.cons (.var 8) .nil))) (.cint 0))) (.var 8))) (.cons (.iff (.or (.cmp .eq (.var 11) (.lst (.nil))) (.or (.cmp .ne (.var 7) (.call i_law_sum (.cons (.var 11) .nil))) (.not (.isi (.var 7) (.tuple))))) (.cons (.ret 2 (.pure (.cbl false))) .nil) (.nil)) .nil)) (env := [some (.scr ns), some (.int (by_ : Int)), some (.lst (rs.map pt)), some (.lst (rs.map pt)), some (.lst (st.map pt)), some (.int (0 + (ag : Int))), none, x7, x8, some (.lst (l.map pt)), some (pt mv), x11, x12, x13]) l pt (fun pre env => ∃ x7 x8 x11 x12 x13, env = [some (.scr ns), some (.int (by_ : Int)), some (.lst (rs.map pt)), some (.lst (rs.map pt)), some (.lst (st.map pt)), some (.int (0 + (ag : Int))), none, x7, x8, some (.lst (l.map pt)), some (pt mv), x11, x12, x13]) rfl ⟨_, _, _, _, _, rfl⟩ (by
        rintro pre3 s post3 env hp3 ⟨x7, x8, x11, x12, x13, rfl⟩
        have hs : s ∈ l := by rw [hp3]; simp
        refine ⟨[some (.scr ns), some (.int (by_ : Int)), some (.lst (rs.map pt)), some (.lst (rs.map pt)), some (.lst (st.map pt)), some (.int (0 + (ag : Int))), none, some (pt s), x8, some (.lst (l.map pt)), some (pt mv), x11, x12, x13], rfl, ?_⟩
        have hm : ev gv (Phi gv D 1000 (n + 3)) (.lc [8] (.nm 8) (.seq (.var 4)) (.so (.cmp .eq (.call i_law_span (.cons (.var 7) (.cons (.var 8) .nil))) (.cint 0))) (.var 8)) [some (.scr ns), some (.int (by_ : Int)), some (.lst (rs.map pt)), some (.lst (rs.map pt)), some (.lst (st.map pt)), some (.int (0 + (ag : Int))), none, some (pt s), x8, some (.lst (l.map pt)), some (pt mv), x11, x12, x13] = some (.lst ((alg st s).map pt)) := by
          refine ev_lcif st pt pt (fun r => decide (spn s r = 0)) rfl fun r hr => ⟨[some (.scr ns), some (.int (by_ : Int)), some (.lst (rs.map pt)), some (.lst (rs.map pt)), some (.lst (st.map pt)), some (.int (0 + (ag : Int))), none, some (pt s), some (pt r), some (.lst (l.map pt)), some (pt mv), x11, x12, x13], rfl, ev_cmp (x := .int (spn s r)) (y := .int 0) (ev_call (ts := [pt s, pt r]) rfl (law_span_pt (hlb s hs) (hst r hr))) rfl (by simp only [cmpT, teq_int]; rfl), fun _ => rfl⟩
        refine runs_nx (env2 := [some (.scr ns), some (.int (by_ : Int)), some (.lst (rs.map pt)), some (.lst (rs.map pt)), some (.lst (st.map pt)), some (.int (0 + (ag : Int))), none, some (pt s), x8, some (.lst (l.map pt)), some (pt mv), some (.lst ((alg st s).map pt)), x12, x13]) (exec_asgF hm (flat_pts _)) ?_
        have hmi := hG.mine s hs
        have hn0 : cmpT .eq (.lst ((alg st s).map pt)) (.lst []) = some (.bl false) := by
          have : cmpT .eq (.lst ((alg st s).map pt)) (.lst (([] : List P2).map pt)) = some (.bl false) := by
            simp only [cmpT, dat_pts, Bool.and_self, if_true, teq_pts, decide_eq_false hmi.1]
          exact this
        refine runs_nx (env2 := [some (.scr ns), some (.int (by_ : Int)), some (.lst (rs.map pt)), some (.lst (rs.map pt)), some (.lst (st.map pt)), some (.int (0 + (ag : Int))), none, some (pt s), x8, some (.lst (l.map pt)), some (pt mv), some (.lst ((alg st s).map pt)), x12, x13]) (exec_skip (ev_or (p := false) (q := false) (ev_cmp rfl rfl hn0) fun _ => ev_or (p := false) (q := false) (ev_cmp (x := pt s) (y := pt s) rfl (ev_call (ts := [.lst ((alg st s).map pt)]) rfl (by rw [law_sum_ok, ← hmi.2])) (ne_pt s)) fun _ => rfl)) (runs_nil ⟨_, _, _, _, _, rfl⟩))
      obtain ⟨env', hfro, x7, x8, x11, x12, x13, rfl⟩ := hfro
      refine runs_nx (env2 := [some (.scr ns), some (.int (by_ : Int)), some (.lst (rs.map pt)), some (.lst (rs.map pt)), some (.lst (st.map pt)), some (.int (0 + (ag : Int))), none, none, x8, some (.lst (l.map pt)), some (pt mv), x11, x12, x13]) hfro ?_
      have hall : ev gv (Phi gv D 1000 (n + 3)) (.blt .all (.cons (.lc [8] (.nm 8) (.seq (.var 4)) (.no) (.blt .any (.cons (.lc [7] (.nm 7) (.seq (.var 9)) (.no) (.cmp .eq (.call i_law_span (.cons (.var 7) (.cons (.var 8) .nil))) (.cint 0))) .nil))) .nil)) [some (.scr ns), some (.int (by_ : Int)), some (.lst (rs.map pt)), some (.lst (rs.map pt)), some (.lst (st.map pt)), some (.int (0 + (ag : Int))), none, none, x8, some (.lst (l.map pt)), some (pt mv), x11, x12, x13] = some (.bl (st.all fun r => l.any fun s => decide (spn s r = 0))) := by
        refine ev_blt (evs_one (ev_lc st pt (fun r => T.bl (l.any fun s => decide (spn s r = 0))) rfl fun r hr => ⟨[some (.scr ns), some (.int (by_ : Int)), some (.lst (rs.map pt)), some (.lst (rs.map pt)), some (.lst (st.map pt)), some (.int (0 + (ag : Int))), none, none, some (pt r), some (.lst (l.map pt)), some (pt mv), x11, x12, x13], rfl, ?_⟩)) (all_mapT _ _)
        refine ev_blt (evs_one (ev_lc l pt (fun s => T.bl (decide (spn s r = 0))) rfl fun s hs => ⟨[some (.scr ns), some (.int (by_ : Int)), some (.lst (rs.map pt)), some (.lst (rs.map pt)), some (.lst (st.map pt)), some (.int (0 + (ag : Int))), none, some (pt s), some (pt r), some (.lst (l.map pt)), some (pt mv), x11, x12, x13], rfl, ?_⟩)) (any_mapT _ _)
        exact ev_cmp (x := .int (spn s r)) (y := .int 0) (ev_call (ts := [pt s, pt r]) rfl (law_span_pt (hlb s hs) (hst r hr))) rfl (by simp only [cmpT, teq_int]; rfl)
      have hall1 : (st.all fun r => l.any fun s => decide (spn s r = 0)) = true := by
        rw [List.all_eq_true]
        intro r hr
        obtain ⟨s, hs, z⟩ := hG.each r hr
        exact List.any_eq_true.mpr ⟨s, hs, decide_eq_true z⟩
      rw [hall1] at hall
      refine runs_nx (env2 := [some (.scr ns), some (.int (by_ : Int)), some (.lst (rs.map pt)), some (.lst (rs.map pt)), some (.lst (st.map pt)), some (.int (0 + (ag : Int))), none, none, x8, some (.lst (l.map pt)), some (pt mv), x11, x12, x13]) (exec_skip (ev_not hall)) ?_
      refine runs_nx (env2 := [some (.scr ns), some (.int (by_ : Int)), some (.lst (rs.map pt)), some (.lst (rs.map pt)), some (.lst (st.map pt)), some (.int (0 + (ag : Int))), none, none, x8, some (.lst (l.map pt ++ [pt (0, 0)])), some (pt mv), x11, x12, x13]) ?_ (runs_nil ⟨_, _, _, _, _, _, _, _, _, rfl⟩)
      have hll : l.length < 1000000 := by omega
      show (appT (.lst (l.map pt)) (pt (0, 0))).map _ = _
      rw [show appT (.lst (l.map pt)) (pt (0, 0)) = some (.lst (l.map pt ++ [pt (0, 0)])) from if_pos (by rw [List.length_map]; exact hll)]
      rfl
    · rintro env ⟨x5, x6, x7, x8, x9, x10, x11, x12, x13, rfl⟩
      exact runs_nil ⟨_, _, _, _, _, _, _, _, _, _, _, _, _, rfl⟩

  · rintro env ⟨x1, x2, x3, x4, x5, x6, x7, x8, x9, x10, x11, x12, x13, rfl⟩
    have g1 := gathered_ok (gv := gv) (D := D) (W := 1000) (n := n) (l := [(0, -2), (0, 3), (1, 0)]) (by decide) (by decide) (by decide) (by decide)
    have g2 := gathered_ok (gv := gv) (D := D) (W := 1000) (n := n) (l := [(-4, 0)]) (by decide) (by decide) (by decide) (by decide)
    have g3 := gathered_ok (gv := gv) (D := D) (W := 1000) (n := n) (l := [(1, 1), (1, 1)]) (by decide) (by decide) (by decide) (by decide)
    rw [show gath [(0, -2), (0, 3), (1, 0)] = ([(1, 0), (0, 5)], (0, -2)) by decide] at g1
    rw [show gath [(-4, 0)] = ([(4, 0)], (-4, 0)) by decide] at g2
    rw [show gath [(1, 1), (1, 1)] = ([(2, 2)], (0, 0)) by decide] at g3
    have e1 := ev_call (gv := gv) (env := [some (.scr ns), x1, x2, x3, x4, x5, x6, x7, x8, x9, x10, x11, x12, x13]) (es := .cons (.lst (.cons (.tup (.cons (.cint 0) (.cons (.neg (.cint 2)) .nil))) (.cons (.tup (.cons (.cint 0) (.cons (.cint 3) .nil))) (.cons (.tup (.cons (.cint 1) (.cons (.cint 0) .nil))) .nil)))) .nil) rfl g1
    have e2 := ev_call (gv := gv) (env := [some (.scr ns), x1, x2, x3, x4, x5, x6, x7, x8, x9, x10, x11, x12, x13]) (es := .cons (.lst (.cons (.tup (.cons (.neg (.cint 4)) (.cons (.cint 0) .nil))) .nil)) .nil) rfl g2
    have e3 := ev_call (gv := gv) (env := [some (.scr ns), x1, x2, x3, x4, x5, x6, x7, x8, x9, x10, x11, x12, x13]) (es := .cons (.lst (.cons (.tup (.cons (.cint 1) (.cons (.cint 1) .nil))) (.cons (.tup (.cons (.cint 1) (.cons (.cint 1) .nil))) .nil))) .nil) rfl g3
    refine execs_nx (exec_skip (ev_cmp e1 rfl (by kernel_rfl))) (execs_rt (exec_ret0 ?_))
    exact ev_and (p := true) (q := true) (ev_cmp e2 rfl (by kernel_rfl)) (fun _ => ev_cmp e3 rfl (by kernel_rfl))
end
end Sb
namespace Lw
open PySem L2 Sb
def top (i : Nat) : Stmt := PySem.Challenge.pw_stickbodies_k01_whole_gathered.main.body.getD i (.Pass ⟨0, 0, 0, 0⟩)
def eLaw : FD := ⟨i_law, "law", ("law", none), "law", top 21, ["_law_script", "_law_by", "_law_rows_here", "_law_handed", "_law_standing", "_law_again", "_law_found", "_law_stick", "_law_row", "_law_sticks_here", "_law_moved", "_law_mine", "_law_one", "_law_other"], ["_law_script"], d_law⟩
def fns : List FD := [
  ⟨i_is_whole, "is_whole", ("is_whole", none), "is_whole", top 6, ["thing"], ["thing"], d_is_whole⟩,
  ⟨i_is_pair, "is_pair", ("is_pair", none), "is_pair", top 7, ["thing"], ["thing"], d_is_pair⟩,
  ⟨i_span, "span", ("span", none), "span", top 8, ["one", "other"], ["one", "other"], d_span⟩,
  ⟨i_stands, "stands", ("stands", none), "stands", top 9, ["stick"], ["stick"], d_stands⟩,
  ⟨i_is_near, "is_near", ("is_near", none), "is_near", top 10, ["stick"], ["stick"], d_is_near⟩,
  ⟨i_added, "added", ("added", none), "added", top 11, ["points", "point"], ["points"], d_added⟩,
  ⟨i_put_in, "put_in", ("put_in", none), "put_in", top 12, ["sticks", "stick", "at", "one"], ["sticks", "stick"], d_put_in⟩,
  ⟨i_gathered, "gathered", ("gathered", none), "gathered", top 13, ["rows", "row", "sticks", "moved"], ["rows"], d_gathered⟩,
  ⟨i_law_number, "_law_number", ("_law_number", none), "_law_number", top 15, ["_law_cell", "_law_at", "_law_whole", "_law_mixed", "_law_more"], ["_law_cell", "_law_at", "_law_whole"], d_law_number⟩,
  ⟨i_law_span, "_law_span", ("_law_span", none), "_law_span", top 16, ["_law_one", "_law_other"], ["_law_one", "_law_other"], d_law_span⟩,
  ⟨i_law_pair, "_law_pair", ("_law_pair", none), "_law_pair", top 17, ["_law_number_here", "_law_far", "_law_x", "_law_y"], ["_law_number_here", "_law_far"], d_law_pair⟩,
  ⟨i_law_sticks, "_law_sticks", ("_law_sticks", none), "_law_sticks", top 18, ["_law_script", "_law_by", "_law_most", "_law_far", "_law_cells", "_law_whole", "_law_found", "_law_at", "_law_stick", "_law_place", "_law_one"], ["_law_script", "_law_by", "_law_most", "_law_far"], d_law_sticks⟩,
  ⟨i_law_sum, "_law_sum", ("_law_sum", none), "_law_sum", top 19, ["_law_points", "_law_point"], ["_law_points"], d_law_sum⟩,
  ⟨i_law_rows, "_law_rows", ("_law_rows", none), "_law_rows", top 20, ["_law_script", "_law_by", "_law_found", "_law_cells", "_law_at", "_law_number_here"], ["_law_script", "_law_by"], d_law_rows⟩,
  eLaw]
def gls : List (Nat × Str × Int) := [(0, "MOST", 6), (1, "FAR", 20)]
def xcs : List (Nat × Str) := [(0, "BodyError"), (1, "BadSticks")]
def cds : List CD := []
def cls : List (Nat × Str) := []
def kns : List (Nat × Nat × Bool) := []
def tb : Tbl := tblOf fns gls xcs cds cls kns
instance : HasG tb.gv 0 6 := ⟨by kernel_rfl⟩
instance : HasG tb.gv 1 20 := ⟨by kernel_rfl⟩
instance : Has tb.D i_is_whole d_is_whole := ⟨by kernel_rfl⟩
instance : Has tb.D i_is_pair d_is_pair := ⟨by kernel_rfl⟩
instance : Has tb.D i_span d_span := ⟨by kernel_rfl⟩
instance : Has tb.D i_stands d_stands := ⟨by kernel_rfl⟩
instance : Has tb.D i_is_near d_is_near := ⟨by kernel_rfl⟩
instance : Has tb.D i_added d_added := ⟨by kernel_rfl⟩
instance : Has tb.D i_put_in d_put_in := ⟨by kernel_rfl⟩
instance : Has tb.D i_gathered d_gathered := ⟨by kernel_rfl⟩
instance : Has tb.D i_law_number d_law_number := ⟨by kernel_rfl⟩
instance : Has tb.D i_law_span d_law_span := ⟨by kernel_rfl⟩
instance : Has tb.D i_law_pair d_law_pair := ⟨by kernel_rfl⟩
instance : Has tb.D i_law_sticks d_law_sticks := ⟨by kernel_rfl⟩
instance : Has tb.D i_law_sum d_law_sum := ⟨by kernel_rfl⟩
instance : Has tb.D i_law_rows d_law_rows := ⟨by kernel_rfl⟩
instance : Has tb.D i_law d_law := ⟨by kernel_rfl⟩
theorem eLaw_in : eLaw ∈ tb.fns := List.mem_of_getElem? (i := 14) (show fns[14]? = some eLaw from rfl)
theorem eLaw_D : tb.D eLaw.f = some eLaw.d := by kernel_rfl
theorem tb_ok : tb.ok = true := by decide +kernel
def loose : List Str := (["BodyError", "BadSticks", "MOST", "FAR", "is_whole", "is_pair", "span", "stands", "is_near", "added", "put_in", "gathered", "_law_number", "_law_span", "_law_pair", "_law_sticks", "_law_sum", "_law_rows"] : List Str)
abbrev Rr : PySem.W.OpenRow := PySem.W.OpenLaw.row PySem.Challenge.rw_stickbodies_k01_whole_gathered
abbrev hk : PySem.W.Hook := hookE 4 tb.fa tb.fn tb.ex
def ob (s : PySem.W.SharedT) : He.AlD × Bool := obsE 4 tb.fa tb.fn tb.ex (HandSHeadRun.getT s)
theorem ob_eq (s : PySem.W.SharedT) : ob s = hk.obs s.abs := obsE_eq (HandSHeadRun.getT_eq s)
set_option maxHeartbeats 0 in
theorem run (w : World) : HandSHeadRun.RunEq Rr (PySem.W.view Rr.prog [21]) hk ob 4000 loose w := by
  intro os
  kernel_rfl
theorem pure (ns : List Int) (h : ns.length ≤ 63) (hb : ∀ z ∈ ns, Builtin.Int.intBits z ≤ 1048576) : Phi tb.gv tb.D 1000 20 eLaw.f [.scr ns] = some (.val (.bl true)) :=
  k01_run (n := 16) (fun z hz => bits_B (hb z hz))
end Lw
open PySem PySem.W PySem.Calls PyProof.Rows
set_option maxRecDepth 100000 in
set_option maxHeartbeats 0 in
theorem PySem.Challenge.cw_stickbodies_k01_whole_gathered_holds : PySem.Challenge.rw_stickbodies_k01_whole_gathered.Holds := by
  w_on; o_law
  refine HandSHeadRun.head_any (r := OpenLaw.row PySem.Challenge.rw_stickbodies_k01_whole_gathered) (q := view (OpenLaw.row PySem.Challenge.rw_stickbodies_k01_whole_gathered).prog [21]) (H := Lw.hk) (ob := Lw.ob) (M := 4000) (loose := Lw.loose) (d := HandSHeadRun.topDef (OpenLaw.row PySem.Challenge.rw_stickbodies_k01_whole_gathered).prog 21) (kwd := []) Lw.ob_eq
    (by kernel_rfl) (fun s => by kernel_rfl) Lw.run (by kernel_rfl) (by kernel_rfl) (by kernel_rfl) (by rfl) (by first | assumption | decide +kernel) (by decide +kernel) ⟨rfl, rfl, rfl, rfl, rfl, by decide +kernel⟩ ?hw ?hc
  case hw => w_witness2
  case hc =>
    exact Sb.law_walk (l := PySem.Challenge.rw_stickbodies_k01_whole_gathered) Lw.tb Lw.eLaw 1000 19 rfl (by kernel_rfl) ⟨rfl, by decide, by decide⟩ 4 Lw.tb_ok Sb.tblOf_x Lw.eLaw_in Lw.eLaw_D rfl (by kernel_rfl) (x := "_law_script") rfl Lw.pure
