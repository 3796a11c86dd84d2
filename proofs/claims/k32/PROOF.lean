import PyProof.Rows.All
import Wide.All
import OpenK.AllK
import Wide.FinOn
import HandS.ForMost
import HandS.ForExc
import HandS.Head0
import HandS.Head1
import HandS.Head2
import HandS.HeadEnd
import HandS.HeadHook1
import HandS.HeadHook2
import HandS.HeadNt
import PySem.Challenge.RW_farhaul_k32_whole_frames_are_found
set_option Elab.async false
set_option linter.all false
set_option maxRecDepth 100000
set_option maxHeartbeats 4000000
namespace Qs
open PySem PySem.Spec PyProof.Rows L2
/-- the classes by number -/
class CTab where
  addr : Nat → Addr
  names : Nat → List Str
variable [CTab]
/-- data, without a heap -/
inductive Dt where
  | non | bl (b : Bool) | int (i : Int) | str (x : Str)
  | lst (xs : List Dt) | tup (xs : List Dt) | dic (kvs : List (Key × Dt)) | ob (c : Nat) (ds : List Dt)
  /-- anything -/
  | top
  /-- a list that is read alone (the script) -/
  | rl (xs : List Dt)
/-- what a name holds: n data made here (or flat), o data from elsewhere, the others are owned: fl a list, fd a dict of n data -/
inductive Et where
  | n (d : Dt) | o (d : Dt)
  | fl (ds : List Dt) | fd (kvs : List (Key × Dt))
  | lst (es : List Et) | tup (es : List Et) | dic (kes : List (Key × Et)) | ob (c : Nat) (es : List Et)
mutual
inductive Dat (K : PySem.W.Frag) (F : Hp) : V → Dt → Prop
  | top {v} : Dat K F v .top
  | non : Dat K F .non .non
  | bl {b} : Dat K F (.bl b) (.bl b)
  | int {i} : Dat K F (.int i) (.int i)
  | str {x} : Dat K F (.str x) (.str x)
  | lst {a : Addr} {vs ds} : F a = some (.lst vs) → Dats K F vs ds → Dat K F (.ref a) (.lst ds)
  | rl {a vs ds} : SqL K F a vs → Dats K F vs ds → Dat K F (.ref a) (.rl ds)
  | tup {a vs ds} : SqT K F a vs → Dats K F vs ds → Dat K F (.ref a) (.tup ds)
  | dic {a : Addr} {kvs : List (Key × V)} {kds : List (Key × Dt)} : F a = some (.dK kvs) → kvs.map (·.1) = kds.map (·.1) → Dats K F (kvs.map (·.2)) (kds.map (·.2)) → Dat K F (.ref a) (.dic kds)
  | ob {a dx : Addr} {c : Nat} {fs : List (Str × V)} {ds : List Dt} : F a = some (.ins (CTab.addr c) dx fs) → fs.map (·.1) = (CTab.names c).take ds.length → Dats K F (fs.map (·.2)) ds → Dat K F (.ref a) (.ob c ds)
inductive Dats (K : PySem.W.Frag) (F : Hp) : List V → List Dt → Prop
  | nil : Dats K F [] []
  | cons {v d vs ds} : Dat K F v d → Dats K F vs ds → Dats K F (v :: vs) (d :: ds)
end
theorem Same.sqt {K : PySem.W.Frag} {H H' : Hp} {a : Addr} {xs : List V} (e : Same H H') (h : SqT K H a xs) : SqT K H' a xs := by
  rcases h with (h | ⟨o, h⟩) | h
  · exact .inl (.inl (e _ _ h))
  · exact .inl (.inr ⟨o, e _ _ h⟩)
  · exact .inr h
variable {K : PySem.W.Frag} {F N H F' N' H' A : Hp}
mutual
theorem Dat.mono (e : Same F F') : ∀ {v : V} {d : Dt}, Dat K F v d → Dat K F' v d
  | _, _, .top => .top
  | _, _, .non => .non
  | _, _, .bl => .bl
  | _, _, .int => .int
  | _, _, .str => .str
  | _, _, .lst h t => .lst (e _ _ h) (Dats.mono e t)
  | _, _, .rl h t => .rl (e.seq h) (Dats.mono e t)
  | _, _, .tup h t => .tup (Same.sqt e h) (Dats.mono e t)
  | _, _, .dic h k t => .dic (e _ _ h) k (Dats.mono e t)
  | _, _, .ob h k t => .ob (e _ _ h) k (Dats.mono e t)
theorem Dats.mono (e : Same F F') : ∀ {vs : List V} {ds : List Dt}, Dats K F vs ds → Dats K F' vs ds
  | _, _, .nil => .nil
  | _, _, .cons h t => .cons (Dat.mono e h) (Dats.mono e t)
end
theorem Dats.length : ∀ {vs : List V} {ds : List Dt}, Dats K F vs ds → vs.length = ds.length
  | _, _, .nil => rfl
  | _, _, .cons _ t => congrArg (· + 1) (Dats.length t)
theorem Dats.get : ∀ {vs : List V} {ds : List Dt} {i : Nat} {d : Dt}, Dats K F vs ds → ds[i]? = some d → ∃ v, vs[i]? = some v ∧ Dat K F v d
  | _, _, _, _, .nil, e => by simp at e
  | _, _, 0, _, .cons h _, e => by
    simp at e
    subst e
    exact ⟨_, rfl, h⟩
  | _, _, i + 1, _, .cons _ t, e => by
    obtain ⟨v, h1, h2⟩ := Dats.get (i := i) t (by simpa using e)
    exact ⟨v, by simpa using h1, h2⟩
theorem Dats.get' : ∀ {vs : List V} {ds : List Dt} {i : Nat} {v : V}, Dats K F vs ds → vs[i]? = some v → ∃ d, ds[i]? = some d ∧ Dat K F v d
  | _, _, _, _, .nil, e => by simp at e
  | _, _, 0, _, .cons h _, e => by
    simp at e
    subst e
    exact ⟨_, rfl, h⟩
  | _, _, i + 1, _, .cons _ t, e => by
    obtain ⟨v, h1, h2⟩ := Dats.get' (i := i) t (by simpa using e)
    exact ⟨v, by simpa using h1, h2⟩
theorem Dats.append : ∀ {vs ws : List V} {ds es : List Dt}, Dats K F vs ds → Dats K F ws es → Dats K F (vs ++ ws) (ds ++ es)
  | _, _, _, _, .nil, s => s
  | _, _, _, _, .cons h t, s => .cons h (Dats.append t s)
theorem Dats.drop : ∀ {vs : List V} {ds : List Dt} (n : Nat), Dats K F vs ds → Dats K F (vs.drop n) (ds.drop n)
  | _, _, 0, h => h
  | _, _, _ + 1, .nil => .nil
  | _, _, n + 1, .cons _ t => Dats.drop n t
theorem Dats.take : ∀ {vs : List V} {ds : List Dt} (n : Nat), Dats K F vs ds → Dats K F (vs.take n) (ds.take n)
  | _, _, 0, _ => .nil
  | _, _, _ + 1, .nil => .nil
  | _, _, n + 1, .cons h t => .cons h (Dats.take n t)
theorem Dats.set {v : V} {d : Dt} (h : Dat K F v d) : ∀ {vs : List V} {ds : List Dt} (i : Nat), Dats K F vs ds → Dats K F (vs.set i v) (ds.set i d)
  | _, _, _, .nil => .nil
  | _, _, 0, .cons _ t => .cons h t
  | _, _, i + 1, .cons q t => .cons q (Dats.set h i t)
theorem Dats.rep {vs : List V} {ds : List Dt} (h : Dats K F vs ds) : ∀ k : Nat, Dats K F (List.replicate k vs).flatten (List.replicate k ds).flatten
  | 0 => .nil
  | k + 1 => by
    simp only [List.replicate_succ, List.flatten_cons]
    exact h.append (Dats.rep h k)
/-- numbers, truths, texts, None: no object -/
def sc : Dt → Bool
  | .non => true | .bl _ => true | .int _ => true | .str _ => true | .top => true | _ => false
theorem Dat.sc {v : V} {d : Dt} (h : Dat K F v d) (s : sc d = true) : Dat K F' v d := by
  cases h <;> first | exact .top | exact .non | exact .bl | exact .int | exact .str | cases s
theorem Dats.sc : ∀ {vs : List V} {ds : List Dt}, Dats K F vs ds → ds.all Qs.sc = true → Dats K F' vs ds
  | _, _, .nil, _ => .nil
  | _, _, .cons h t, s => by
    simp only [List.all_cons, Bool.and_eq_true] at s
    exact .cons (h.sc s.1) (Dats.sc t s.2)
/-! ### owned things, with the addresses that are theirs -/
mutual
inductive Own (K : PySem.W.Frag) (F N H : Hp) : V → Et → List Addr → Prop
  | n {v d} : Dat K N v d → Own K F N H v (.n d) []
  | o {v d} : Dat K F v d → Own K F N H v (.o d) []
  | fl {a : Addr} {vs ds} : H a = some (.lst vs) → Dats K N vs ds → Own K F N H (.ref a) (.fl ds) [a]
  | fd {a : Addr} {kvs : List (Key × V)} {kds : List (Key × Dt)} : H a = some (.dK kvs) → kvs.map (·.1) = kds.map (·.1) → Dats K N (kvs.map (·.2)) (kds.map (·.2)) → Own K F N H (.ref a) (.fd kds) [a]
  | lst {a : Addr} {vs es fp} : H a = some (.lst vs) → Owns K F N H vs es fp → Own K F N H (.ref a) (.lst es) (a :: fp)
  | tup {a : Addr} {vs es fp} : H a = some (.tup vs) → Owns K F N H vs es fp → Own K F N H (.ref a) (.tup es) (a :: fp)
  | dic {a : Addr} {kvs : List (Key × V)} {kes : List (Key × Et)} {fp} : H a = some (.dK kvs) → kvs.map (·.1) = kes.map (·.1) → Owns K F N H (kvs.map (·.2)) (kes.map (·.2)) fp → Own K F N H (.ref a) (.dic kes) (a :: fp)
  | ob {a dx : Addr} {c : Nat} {fs : List (Str × V)} {es : List Et} {fp} : H a = some (.ins (CTab.addr c) dx fs) → fs.map (·.1) = (CTab.names c).take es.length → Owns K F N H (fs.map (·.2)) es fp → Own K F N H (.ref a) (.ob c es) (a :: fp)
inductive Owns (K : PySem.W.Frag) (F N H : Hp) : List V → List Et → List Addr → Prop
  | nil : Owns K F N H [] [] []
  | cons {v e vs es fp gp} : Own K F N H v e fp → Owns K F N H vs es gp → Owns K F N H (v :: vs) (e :: es) (fp ++ gp)
end
mutual
theorem Own.frame (eF : Same F F') (eN : Same N N') : ∀ {v : V} {e : Et} {fp : List Addr}, Own K F N H v e fp → (∀ a ∈ fp, H' a = H a) → Own K F' N' H' v e fp
  | _, _, _, .n h, _ => .n (h.mono eN)
  | _, _, _, .o h, _ => .o (h.mono eF)
  | _, _, _, .fl h t, k => .fl ((k _ (by simp)).trans h) (t.mono eN)
  | _, _, _, .fd h q t, k => .fd ((k _ (by simp)).trans h) q (t.mono eN)
  | _, _, _, .lst h t, k => .lst ((k _ (by simp)).trans h) (Owns.frame eF eN t fun a ha => k a (List.mem_cons_of_mem _ ha))
  | _, _, _, .tup h t, k => .tup ((k _ (by simp)).trans h) (Owns.frame eF eN t fun a ha => k a (List.mem_cons_of_mem _ ha))
  | _, _, _, .dic h q t, k => .dic ((k _ (by simp)).trans h) q (Owns.frame eF eN t fun a ha => k a (List.mem_cons_of_mem _ ha))
  | _, _, _, .ob h q t, k => .ob ((k _ (by simp)).trans h) q (Owns.frame eF eN t fun a ha => k a (List.mem_cons_of_mem _ ha))
theorem Owns.frame (eF : Same F F') (eN : Same N N') : ∀ {vs : List V} {es : List Et} {fp : List Addr}, Owns K F N H vs es fp → (∀ a ∈ fp, H' a = H a) → Owns K F' N' H' vs es fp
  | _, _, _, .nil, _ => .nil
  | _, _, _, .cons h t, k => .cons (Own.frame eF eN h fun a ha => k a (List.mem_append_left _ ha)) (Owns.frame eF eN t fun a ha => k a (List.mem_append_right _ ha))
end
mutual
theorem Own.tracked : ∀ {v : V} {e : Et} {fp : List Addr}, Own K F N H v e fp → ∀ a ∈ fp, ∃ o, H a = some o
  | _, _, _, .n _, _, h => nomatch h
  | _, _, _, .o _, _, h => nomatch h
  | _, _, _, .fl h _, a, q => ⟨_, (List.mem_singleton.mp q) ▸ h⟩
  | _, _, _, .fd h _ _, a, q => ⟨_, (List.mem_singleton.mp q) ▸ h⟩
  | _, _, _, .lst h t, a, q => (List.mem_cons.mp q).elim (fun e => ⟨_, e ▸ h⟩) fun q => Owns.tracked t a q
  | _, _, _, .tup h t, a, q => (List.mem_cons.mp q).elim (fun e => ⟨_, e ▸ h⟩) fun q => Owns.tracked t a q
  | _, _, _, .dic h _ t, a, q => (List.mem_cons.mp q).elim (fun e => ⟨_, e ▸ h⟩) fun q => Owns.tracked t a q
  | _, _, _, .ob h _ t, a, q => (List.mem_cons.mp q).elim (fun e => ⟨_, e ▸ h⟩) fun q => Owns.tracked t a q
theorem Owns.tracked : ∀ {vs : List V} {es : List Et} {fp : List Addr}, Owns K F N H vs es fp → ∀ a ∈ fp, ∃ o, H a = some o
  | _, _, _, .nil, _, h => nomatch h
  | _, _, _, .cons h t, a, q => (List.mem_append.mp q).elim (fun q => Own.tracked h a q) fun q => Owns.tracked t a q
end
mutual
def toD : Et → Dt
  | .n d => d
  | .o d => d
  | .fl ds => .lst ds
  | .fd kvs => .dic kvs
  | .lst es => .lst (toDs es)
  | .tup es => .tup (toDs es)
  | .dic kes => .dic (toDk kes)
  | .ob c es => .ob c (toDs es)
def toDs : List Et → List Dt
  | [] => []
  | e :: es => toD e :: toDs es
def toDk : List (Key × Et) → List (Key × Dt)
  | [] => []
  | (k, e) :: es => (k, toD e) :: toDk es
end
theorem toDs_eq : ∀ es : List Et, toDs es = es.map toD
  | [] => rfl
  | e :: es => by rw [toDs, toDs_eq es, List.map_cons]
theorem toDk_1 : ∀ es : List (Key × Et), (toDk es).map (·.1) = es.map (·.1)
  | [] => rfl
  | (k, e) :: es => by
    rw [toDk, List.map_cons, toDk_1 es, List.map_cons]
theorem toDk_2 : ∀ es : List (Key × Et), (toDk es).map (·.2) = toDs (es.map (·.2))
  | [] => rfl
  | (k, e) :: es => by
    rw [toDk, List.map_cons, toDk_2 es, List.map_cons, toDs]
theorem toDs_len : ∀ es : List Et, (toDs es).length = es.length := fun es => by rw [toDs_eq, List.length_map]
mutual
theorem Own.dat (eF : Same F H') (eN : Same N H') : ∀ {v : V} {e : Et} {fp : List Addr}, Own K F N H v e fp → (∀ a ∈ fp, ∀ o, H a = some o → H' a = some o) → Dat K H' v (toD e)
  | _, _, _, .n h, _ => h.mono eN
  | _, _, _, .o h, _ => h.mono eF
  | _, _, _, .fl h t, k => .lst (k _ (by simp) _ h) (t.mono eN)
  | _, _, _, .fd h q t, k => .dic (k _ (by simp) _ h) q (t.mono eN)
  | _, _, _, .lst h t, k => .lst (k _ (by simp) _ h) (Owns.dat eF eN t fun a ha => k a (List.mem_cons_of_mem _ ha))
  | _, _, _, .tup h t, k => .tup (.of (k _ (by simp) _ h)) (Owns.dat eF eN t fun a ha => k a (List.mem_cons_of_mem _ ha))
  | _, _, _, .dic h q t, k => .dic (k _ (by simp) _ h) (q.trans (toDk_1 _).symm) (by rw [toDk_2]; exact Owns.dat eF eN t fun a ha => k a (List.mem_cons_of_mem _ ha))
  | _, _, _, .ob h q t, k => .ob (k _ (by simp) _ h) (by rw [toDs_len]; exact q) (Owns.dat eF eN t fun a ha => k a (List.mem_cons_of_mem _ ha))
theorem Owns.dat (eF : Same F H') (eN : Same N H') : ∀ {vs : List V} {es : List Et} {fp : List Addr}, Owns K F N H vs es fp → (∀ a ∈ fp, ∀ o, H a = some o → H' a = some o) → Dats K H' vs (toDs es)
  | _, _, _, .nil, _ => .nil
  | _, _, _, .cons h t, k => .cons (Own.dat eF eN h fun a ha => k a (List.mem_append_left _ ha)) (Owns.dat eF eN t fun a ha => k a (List.mem_append_right _ ha))
end
/- no data from elsewhere within -/
mutual
def own : Et → Bool
  | .n _ => true
  | .o _ => false
  | .fl _ => true
  | .fd _ => true
  | .lst es => owns es
  | .tup es => owns es
  | .dic kes => ownk kes
  | .ob _ es => owns es
def owns : List Et → Bool
  | [] => true
  | e :: es => own e && owns es
def ownk : List (Key × Et) → Bool
  | [] => true
  | (_, e) :: es => own e && ownk es
end
theorem ownk_eq : ∀ es : List (Key × Et), ownk es = owns (es.map (·.2))
  | [] => rfl
  | (k, e) :: es => by
    rw [ownk, ownk_eq es, List.map_cons, owns]
mutual
/- .. then it is data over N and its own objects -/
theorem Own.datN (eN : Same N H') : ∀ {v : V} {e : Et} {fp : List Addr}, Own K F N H v e fp → own e = true → (∀ a ∈ fp, ∀ o, H a = some o → H' a = some o) → Dat K H' v (toD e)
  | _, _, _, .n h, _, _ => h.mono eN
  | _, _, _, .o h, z, _ => by cases z
  | _, _, _, .fl h t, _, k => .lst (k _ (by simp) _ h) (t.mono eN)
  | _, _, _, .fd h q t, _, k => .dic (k _ (by simp) _ h) q (t.mono eN)
  | _, _, _, .lst h t, z, k => .lst (k _ (by simp) _ h) (Owns.datN eN t z fun a ha => k a (List.mem_cons_of_mem _ ha))
  | _, _, _, .tup h t, z, k => .tup (.of (k _ (by simp) _ h)) (Owns.datN eN t z fun a ha => k a (List.mem_cons_of_mem _ ha))
  | _, _, _, .dic h q t, z, k => .dic (k _ (by simp) _ h) (q.trans (toDk_1 _).symm) (by rw [toDk_2]; exact Owns.datN eN t (by rw [own, ownk_eq] at z; exact z) fun a ha => k a (List.mem_cons_of_mem _ ha))
  | _, _, _, .ob h q t, z, k => .ob (k _ (by simp) _ h) (by rw [toDs_len]; exact q) (Owns.datN eN t z fun a ha => k a (List.mem_cons_of_mem _ ha))
theorem Owns.datN (eN : Same N H') : ∀ {vs : List V} {es : List Et} {fp : List Addr}, Owns K F N H vs es fp → owns es = true → (∀ a ∈ fp, ∀ o, H a = some o → H' a = some o) → Dats K H' vs (toDs es)
  | _, _, _, .nil, _, _ => .nil
  | _, _, _, .cons h t, z, k => by
    rw [owns, Bool.and_eq_true] at z
    exact .cons (Own.datN eN h z.1 fun a ha => k a (List.mem_append_left _ ha)) (Owns.datN eN t z.2 fun a ha => k a (List.mem_append_right _ ha))
end
mutual
/- .. and nothing of F is asked -/
theorem Own.noF (eN : Same N N') : ∀ {v : V} {e : Et} {fp : List Addr}, Own K F N H v e fp → own e = true → (∀ a ∈ fp, H' a = H a) → Own K F' N' H' v e fp
  | _, _, _, .n h, _, _ => .n (h.mono eN)
  | _, _, _, .o h, z, _ => by cases z
  | _, _, _, .fl h t, _, k => .fl ((k _ (by simp)).trans h) (t.mono eN)
  | _, _, _, .fd h q t, _, k => .fd ((k _ (by simp)).trans h) q (t.mono eN)
  | _, _, _, .lst h t, z, k => .lst ((k _ (by simp)).trans h) (Owns.noF eN t z fun a ha => k a (List.mem_cons_of_mem _ ha))
  | _, _, _, .tup h t, z, k => .tup ((k _ (by simp)).trans h) (Owns.noF eN t z fun a ha => k a (List.mem_cons_of_mem _ ha))
  | _, _, _, .dic h q t, z, k => .dic ((k _ (by simp)).trans h) q (Owns.noF eN t (by rw [own, ownk_eq] at z; exact z) fun a ha => k a (List.mem_cons_of_mem _ ha))
  | _, _, _, .ob h q t, z, k => .ob ((k _ (by simp)).trans h) q (Owns.noF eN t z fun a ha => k a (List.mem_cons_of_mem _ ha))
theorem Owns.noF (eN : Same N N') : ∀ {vs : List V} {es : List Et} {fp : List Addr}, Owns K F N H vs es fp → owns es = true → (∀ a ∈ fp, H' a = H a) → Owns K F' N' H' vs es fp
  | _, _, _, .nil, _, _ => .nil
  | _, _, _, .cons h t, z, k => by
    rw [owns, Bool.and_eq_true] at z
    exact .cons (Own.noF eN h z.1 fun a ha => k a (List.mem_append_left _ ha)) (Owns.noF eN t z.2 fun a ha => k a (List.mem_append_right _ ha))
end
end Qs
namespace Qs
open PySem PySem.Spec PyProof.Rows L2
variable [CTab]
abbrev En := List (Option Et)
variable {K : PySem.W.Frag} {F N H F' N' H' A : Hp} {σ σ' : L2.St} {ρ ρ' : En} {vs ws : List V} {es gs : List Et} {pn : List (Nat × V)}
inductive OwnS (K : PySem.W.Frag) (F N H : Hp) : L2.St → En → List Addr → Prop
  | nil : OwnS K F N H [] [] []
  | skip {x σ ρ fp} : OwnS K F N H σ ρ fp → OwnS K F N H (x :: σ) (none :: ρ) fp
  | cons {v e σ ρ fp gp} : Own K F N H v e fp → OwnS K F N H σ ρ gp → OwnS K F N H (some v :: σ) (some e :: ρ) (fp ++ gp)
theorem OwnS.frame (eF : Same F F') (eN : Same N N') : ∀ {σ : L2.St} {ρ : En} {fp : List Addr}, OwnS K F N H σ ρ fp → (∀ a ∈ fp, H' a = H a) → OwnS K F' N' H' σ ρ fp
  | _, _, _, .nil, _ => .nil
  | _, _, _, .skip t, k => .skip (OwnS.frame eF eN t k)
  | _, _, _, .cons h t, k => .cons (h.frame eF eN fun a ha => k a (List.mem_append_left _ ha)) (OwnS.frame eF eN t fun a ha => k a (List.mem_append_right _ ha))
theorem OwnS.tracked : ∀ {σ : L2.St} {ρ : En} {fp : List Addr}, OwnS K F N H σ ρ fp → ∀ a ∈ fp, ∃ o, H a = some o
  | _, _, _, .nil, _, h => nomatch h
  | _, _, _, .skip t, a, q => OwnS.tracked t a q
  | _, _, _, .cons h t, a, q => (List.mem_append.mp q).elim (fun q => h.tracked a q) fun q => OwnS.tracked t a q
theorem OwnS.len : ∀ {σ : L2.St} {ρ : En} {fp : List Addr}, OwnS K F N H σ ρ fp → σ.length = ρ.length
  | _, _, _, .nil => rfl
  | _, _, _, .skip t => congrArg (· + 1) (OwnS.len t)
  | _, _, _, .cons _ t => congrArg (· + 1) (OwnS.len t)
/-- the slot i apart -/
theorem OwnS.focus : ∀ {σ : L2.St} {ρ : En} {fp : List Addr} {i : Nat} {x : Option Et}, OwnS K F N H σ ρ fp → ρ[i]? = some x →
    ∃ pre mid post, fp = pre ++ mid ++ post ∧ (∀ e, x = some e → ∃ v, σ[i]? = some (some v) ∧ Own K F N H v e mid) ∧ (x = none → mid = []) ∧
      ∀ (F' N' H' : Hp) (y : Option V) (z : Option Et) (m : List Addr), Same F F' → Same N N' → (∀ a ∈ pre ++ post, H' a = H a) → ((z = none ∧ m = []) ∨ ∃ v e, y = some v ∧ z = some e ∧ Own K F' N' H' v e m) →
        OwnS K F' N' H' (σ.set i y) (ρ.set i z) (pre ++ m ++ post)
  | _, _, _, _, _, .nil, e => by simp at e
  | _, _, _, 0, x, .skip (x := u) t, e => by
    simp at e
    subst e
    refine ⟨[], [], _, rfl, (fun _ h => by cases h), (fun _ => rfl), fun F' N' H' y z m eF eN k h => ?_⟩
    simp only [List.set_cons_zero, List.nil_append] at *
    have t' := OwnS.frame eF eN t k
    rcases h with ⟨rfl, rfl⟩ | ⟨v, e, rfl, rfl, h⟩
    · exact .skip t'
    · exact .cons h t'
  | _, _, _, 0, x, .cons (gp := gp) h t, e => by
    simp at e
    subst e
    refine ⟨[], _, gp, rfl, fun e q => ?_, (fun q => by cases q), fun F' N' H' y z m eF eN k h => ?_⟩
    · cases q
      exact ⟨_, rfl, h⟩
    · simp only [List.set_cons_zero, List.nil_append] at *
      have t' := OwnS.frame eF eN t k
      rcases h with ⟨rfl, rfl⟩ | ⟨v, e, rfl, rfl, h⟩
      · exact .skip t'
      · exact .cons h t'
  | _, _, _, i + 1, x, .skip t, e => by
    obtain ⟨pre, mid, post, e1, h1, h2, h3⟩ := OwnS.focus (i := i) t (by simpa using e)
    refine ⟨pre, mid, post, e1, fun e q => ?_, h2, fun F' N' H' y z m eF eN k h => ?_⟩
    · obtain ⟨v, a, b⟩ := h1 e q
      exact ⟨v, by simpa using a, b⟩
    · exact .skip (h3 F' N' H' y z m eF eN k h)
  | _, _, _, i + 1, x, .cons (fp := fp) h t, e => by
    obtain ⟨pre, mid, post, e1, h1, h2, h3⟩ := OwnS.focus (i := i) t (by simpa using e)
    refine ⟨fp ++ pre, mid, post, by rw [e1]; simp, fun e q => ?_, h2, fun F' N' H' y z m eF eN k q => ?_⟩
    · obtain ⟨v, a, b⟩ := h1 e q
      exact ⟨v, by simpa using a, b⟩
    · have e2 : fp ++ pre ++ m ++ post = fp ++ (pre ++ m ++ post) := by simp
      rw [e2]
      exact .cons (h.frame eF eN fun a ha => k a (by simp [ha])) (h3 F' N' H' y z m eF eN (fun a ha => k a (by
        rcases List.mem_append.mp ha with z | z <;> simp [z])) q)
theorem nodup_repl {l1 m m' l2 : List Addr} (h : (l1 ++ m ++ l2).Nodup) (hm : m'.Nodup) (k : ∀ a ∈ m', a ∈ m ∨ (a ∉ l1 ∧ a ∉ l2)) : (l1 ++ m' ++ l2).Nodup := by
  simp only [List.nodup_append, List.mem_append] at h ⊢
  obtain ⟨⟨h1, h2, h3⟩, h4, h5⟩ := h
  refine ⟨⟨h1, hm, fun a ha b hb => ?_⟩, h4, fun a ha b hb => ?_⟩
  · rcases k b hb with z | z
    · exact h3 a ha b z
    · rintro rfl
      exact z.1 ha
  · rcases ha with ha | ha
    · exact h5 a (.inl ha) b hb
    · rcases k a ha with z | z
      · exact h5 a (.inr z) b hb
      · rintro rfl
        exact z.2 hb
theorem Owns.append : ∀ {vs ws : List V} {es gs : List Et} {fp gp : List Addr}, Owns K F N H vs es fp → Owns K F N H ws gs gp → Owns K F N H (vs ++ ws) (es ++ gs) (fp ++ gp)
  | _, _, _, _, _, _, .nil, s => s
  | _, _, _, _, _, _, .cons (fp := fp) (gp := gp) h t, s => by
    rw [List.append_assoc]
    exact .cons h (Owns.append t s)
theorem Owns.split : ∀ {vs ws : List V} {es gs : List Et} {fp : List Addr}, Owns K F N H (vs ++ ws) (es ++ gs) fp → vs.length = es.length → ∃ f1 f2, fp = f1 ++ f2 ∧ Owns K F N H vs es f1 ∧ Owns K F N H ws gs f2
  | [], _, [], _, fp, h, _ => ⟨[], fp, rfl, .nil, h⟩
  | [], _, _ :: _, _, _, _, e => by simp at e
  | _ :: _, _, [], _, _, _, e => by simp at e
  | v :: vs, ws, e :: es, gs, _, .cons (fp := fp) h t, l => by
    obtain ⟨f1, f2, e1, h1, h2⟩ := Owns.split (vs := vs) (es := es) t (by simpa using l)
    exact ⟨fp ++ f1, f2, by rw [e1, List.append_assoc], .cons h h1, h2⟩
theorem Owns.length : ∀ {vs : List V} {es : List Et} {fp : List Addr}, Owns K F N H vs es fp → vs.length = es.length
  | _, _, _, .nil => rfl
  | _, _, _, .cons _ t => congrArg (· + 1) (Owns.length t)
/-- what is known of the frames' data: A alien, F to be read, N new and frozen; what is owned lies apart from all -/
structure Rp (K : PySem.W.Frag) (A F N H : Hp) (pn : List (Nat × V)) (σ : L2.St) (ρ : En) (vs : List V) (es : List Et) : Prop where
  own : ∃ fp gp, OwnS K F N H σ ρ fp ∧ Owns K F N H vs es gp ∧ (fp ++ gp).Nodup ∧ ∀ a ∈ fp ++ gp, A a = none ∧ N a = none
  sA : Same A H
  sN : Same N H
  nA : ∀ a o, N a = some o → A a = none
  nF : Same N F
  fA : ∀ a o, F a = some o → A a = some o ∨ N a = some o
  pin : ∀ p ∈ pn, σ[p.1]? = some (some p.2)
structure Stp (F N F' N' : Hp) : Prop where
  sN : Same N N'
  sF : Same F F'
  fN : ∀ a o, F' a = some o → F a = some o ∨ N' a = some o
theorem Stp.refl : Stp F N F N := ⟨Same.refl _, Same.refl _, fun _ _ h => .inl h⟩
theorem Stp.trans {F1 N1 : Hp} (s : Stp F N F1 N1) (t : Stp F1 N1 F' N') : Stp F N F' N' := ⟨s.sN.trans t.sN, s.sF.trans t.sF, fun a o h => (t.fN a o h).elim (fun h => (s.fN a o h).elim .inl fun h => .inr (t.sN _ _ h)) .inr⟩
theorem Rp.sF (r : Rp K A F N H pn σ ρ vs es) : Same F H := fun a o h => (r.fA a o h).elim (fun h => r.sA _ _ h) fun h => r.sN _ _ h
theorem same_at {H H' : Hp} (s : Same H H') {a : Addr} (h : ∃ o, H a = some o) : H' a = H a := by
  obtain ⟨o, h⟩ := h
  rw [h, s a o h]
theorem Rp.mono (r : Rp K A F N H pn σ ρ vs es) (s : Same H H') : Rp K A F N H' pn σ ρ vs es := by
  obtain ⟨fp, gp, h1, h2, h3, h4⟩ := r.own
  exact ⟨⟨fp, gp, h1.frame (Same.refl _) (Same.refl _) fun a ha => same_at s (h1.tracked a ha), h2.frame (Same.refl _) (Same.refl _) fun a ha => same_at s (h2.tracked a ha), h3, h4⟩, r.sA.trans s, r.sN.trans s, r.nA, r.nF, r.fA, r.pin⟩
theorem Rp.drop (r : Rp K A F N H pn σ ρ vs es) : Rp K A F N H pn σ ρ [] [] := by
  obtain ⟨fp, gp, h1, h2, h3, h4⟩ := r.own
  exact ⟨⟨fp, [], h1, .nil, by simpa using (List.nodup_append.mp h3).1, fun a ha => h4 a (by simpa using Or.inl (by simpa using ha))⟩, r.sA, r.sN, r.nA, r.nF, r.fA, r.pin⟩
/-- the temps are made alien for a while -/
theorem Rp.hide (r : Rp K A F N H pn σ ρ vs es) : ∃ A', Rp K A' F N H pn σ ρ [] [] ∧ Same A A' ∧ ∀ (F' N' H' : Hp) (σ' : L2.St) (ρ' : En) (ws : List V) (gs : List Et), Stp F N F' N' → Rp K A' F' N' H' pn σ' ρ' ws gs → Rp K A F' N' H' pn σ' ρ' (vs ++ ws) (es ++ gs) := by
  obtain ⟨fp, gp, h1, h2, h3, h4⟩ := r.own
  have hg : ∀ a ∈ gp, A a = none ∧ N a = none := fun a ha => h4 a (by simp [ha])
  have hf : ∀ a ∈ fp, A a = none ∧ N a = none := fun a ha => h4 a (by simp [ha])
  obtain ⟨n1, n2, n3⟩ := List.nodup_append.mp h3
  let A' : Hp := fun a => if a ∈ gp then H a else A a
  have a1 : ∀ a ∈ gp, A' a = H a := fun a ha => if_pos ha
  have a2 : ∀ a, a ∉ gp → A' a = A a := fun a ha => if_neg ha
  have ng : ∀ a o, A a = some o → a ∉ gp := fun a o e hb => by rw [(hg a hb).1] at e; cases e
  have sAA : Same A A' := fun a o e => by rw [a2 a (ng a o e)]; exact e
  refine ⟨A', ⟨⟨fp, [], h1, .nil, by simpa using n1, fun a ha => ?_⟩, fun a o e => ?_, r.sN, fun a o e => ?_, r.nF, fun a o e => ?_, r.pin⟩, sAA, fun F' N' H' σ' ρ' ws gs st r' => ?_⟩
  · have ha : a ∈ fp := by simpa using ha
    refine ⟨?_, (hf a ha).2⟩
    rw [a2 a fun hb => n3 a ha a hb rfl]
    exact (hf a ha).1
  · by_cases ha : a ∈ gp
    · rw [a1 a ha] at e; exact e
    · rw [a2 a ha] at e; exact r.sA a o e
  · rw [a2 a fun hb => by rw [(hg a hb).2] at e; cases e]
    exact r.nA a o e
  · rcases r.fA a o e with z | z
    · exact .inl (sAA a o z)
    · exact .inr z
  · obtain ⟨fp', kp, k1, k2, k3, k4⟩ := r'.own
    have hgt : ∀ a ∈ gp, ∃ o, H a = some o := h2.tracked
    have ne : ∀ a ∈ gp, a ∉ fp' ++ kp := fun a ha hb => by
      obtain ⟨o, e⟩ := hgt a ha
      have := (k4 a hb).1
      rw [a1 a ha, e] at this
      cases this
    obtain ⟨m1, m2, m3⟩ := List.nodup_append.mp k3
    refine ⟨⟨fp', gp ++ kp, k1, (h2.frame st.sF st.sN fun a ha => ?_).append k2, ?_, fun a ha => ?_⟩, sAA.trans r'.sA, r'.sN, fun a o e => ?_, r'.nF, fun a o e => ?_, r'.pin⟩
    · obtain ⟨o, e⟩ := hgt a ha
      rw [e]
      exact r'.sA a o (by rw [a1 a ha]; exact e)
    · refine List.nodup_append.mpr ⟨m1, List.nodup_append.mpr ⟨n2, m2, fun a ha b hb e => ne a ha (by subst e; simp [hb])⟩, fun a ha b hb e => ?_⟩
      subst e
      rcases List.mem_append.mp hb with hb | hb
      · exact ne a hb (by simp [ha])
      · exact m3 a ha a hb rfl
    · have : a ∈ gp ∨ a ∈ fp' ++ kp := by
        rcases List.mem_append.mp ha with z | z
        · exact .inr (by simp [z])
        · rcases List.mem_append.mp z with z | z
          · exact .inl z
          · exact .inr (by simp [z])
      rcases this with z | z
      · refine ⟨(hg a z).1, ?_⟩
        cases e : N' a with
        | none => rfl
        | some o =>
          obtain ⟨o', e'⟩ := hgt a z
          have := r'.nA a o e
          rw [a1 a z, e'] at this
          cases this
      · refine ⟨?_, (k4 a z).2⟩
        have := (k4 a z).1
        rw [a2 a fun hb => ne a hb z] at this
        exact this
    · have := r'.nA a o e
      cases q : A a with
      | none => rfl
      | some o' =>
        rw [sAA a o' q] at this
        cases this
    · rcases st.fN a o e with z | z
      · rcases r.fA a o z with z | z
        · exact .inl z
        · exact .inr (st.sN _ _ z)
      · exact .inr z
/-- N with the objects of gp -/
def ext (N H : Hp) (gp : List Addr) : Hp := fun a => if a ∈ gp then H a else N a
def join (F N : Hp) : Hp := fun a => match F a with | some o => some o | none => N a
theorem join_l {F N : Hp} : Same F (join F N) := fun a o e => by unfold join; rw [e]
theorem join_r {F N : Hp} (h : ∀ a o u, F a = some o → N a = some u → o = u) : Same N (join F N) := fun a o e => by
  unfold join
  cases q : F a with
  | none => exact e
  | some u => rw [h a u o q e]
theorem join_of {F N : Hp} {a : Addr} {o : HO} (h : join F N a = some o) : F a = some o ∨ N a = some o := by
  unfold join at h
  cases q : F a with
  | none => rw [q] at h; exact .inr h
  | some u => rw [q] at h; exact .inl h
/-- owned things are frozen: their objects are N's from now on -/
def frz (e : Et) : Et := if own e = true then .n (toD e) else .o (toD e)
theorem Rp.grow (r : Rp K A F N H pn σ ρ vs es) {gp : List Addr} (ht : ∀ a ∈ gp, ∃ o, H a = some o) (hA : ∀ a ∈ gp, A a = none ∧ N a = none) :
    Stp F N (join F (ext N H gp)) (ext N H gp) ∧ Same (ext N H gp) H ∧ (∀ a o, ext N H gp a = some o → A a = none) ∧ Same (ext N H gp) (join F (ext N H gp)) ∧ (∀ a o, join F (ext N H gp) a = some o → A a = some o ∨ ext N H gp a = some o) ∧ ∀ a ∈ gp, ext N H gp a = H a := by
  have e1 : ∀ a ∈ gp, ext N H gp a = H a := fun a ha => if_pos ha
  have e2 : ∀ a, a ∉ gp → ext N H gp a = N a := fun a ha => if_neg ha
  have sN : Same N (ext N H gp) := fun a o e => by
    rw [e2 a fun hb => by rw [(hA a hb).2] at e; cases e]
    exact e
  have sH : Same (ext N H gp) H := fun a o e => by
    by_cases ha : a ∈ gp
    · rw [e1 a ha] at e; exact e
    · rw [e2 a ha] at e; exact r.sN a o e
  refine ⟨⟨sN, join_l, fun a o e => join_of e⟩, sH, fun a o e => ?_, join_r fun a o u p q => ?_, fun a o e => ?_, e1⟩
  · by_cases ha : a ∈ gp
    · exact (hA a ha).1
    · rw [e2 a ha] at e; exact r.nA a o e
  · have p' := r.sF a o p
    rw [sH a u q] at p'
    exact (Option.some.inj p').symm
  · rcases join_of e with z | z
    · rcases r.fA a o z with z | z
      · exact .inl z
      · exact .inr (sN a o z)
    · exact .inr z
theorem Own.frozen {v : V} {e : Et} {gp : List Addr} {N' F' : Hp} (h : Own K F N H v e gp) (sN : Same N N') (sF : Same F F') (nF : Same N' F') (k : ∀ a ∈ gp, N' a = H a) : Own K F' N' H' v (frz e) [] := by
  unfold frz
  by_cases z : own e = true
  · rw [if_pos z]
    exact .n (h.datN sN z fun a ha o e => (k a ha).trans e)
  · rw [if_neg z]
    exact .o (h.dat sF (sN.trans nF) fun a ha o e => nF a o ((k a ha).trans e))
/-- the first temp is frozen -/
theorem Rp.freeze {v : V} {e : Et} (r : Rp K A F N H pn σ ρ (v :: vs) (e :: es)) : ∃ F' N', Stp F N F' N' ∧ Rp K A F' N' H pn σ ρ (v :: vs) (frz e :: es) := by
  obtain ⟨fp, gp, h1, h2, h3, h4⟩ := r.own
  cases h2 with
  | cons h t =>
    rename_i g1 g2
    obtain ⟨n1, n2, n3⟩ := List.nodup_append.mp h3
    obtain ⟨m1, m2, m3⟩ := List.nodup_append.mp n2
    have hg : ∀ a ∈ g1, A a = none ∧ N a = none := fun a ha => h4 a (by simp [ha])
    obtain ⟨st, sH, nA, nF, fA, k⟩ := r.grow h.tracked hg
    refine ⟨_, _, st, ⟨fp, g2, h1.frame st.sF st.sN fun _ _ => rfl, .cons (fp := []) (h.frozen st.sN st.sF nF k) (t.frame st.sF st.sN fun _ _ => rfl), ?_, fun a ha => ?_⟩, r.sA, sH, nA, nF, fA, r.pin⟩
    · exact List.nodup_append.mpr ⟨n1, m2, fun a ha b hb => n3 a ha b (by simp [hb])⟩
    · have ha' : a ∈ fp ++ (g1 ++ g2) := by
        rcases List.mem_append.mp ha with z | z <;> simp [z]
      refine ⟨(h4 a ha').1, ?_⟩
      have : a ∉ g1 := fun hb => by
        rcases List.mem_append.mp ha with z | z
        · exact n3 a z a (by simp [hb]) rfl
        · exact m3 a hb a z rfl
      show (if a ∈ g1 then H a else N a) = none
      rw [if_neg this]
      exact (h4 a ha').2
/-- the slot i is read: its thing is frozen where it stands -/
theorem Rp.load {i : Nat} {e : Et} (r : Rp K A F N H pn σ ρ [] []) (hi : ρ[i]? = some (some e)) : ∃ v F' N', σ[i]? = some (some v) ∧ Stp F N F' N' ∧ Rp K A F' N' H pn σ (ρ.set i (some (frz e))) [v] [frz e] := by
  obtain ⟨fp, gp, h1, h2, h3, h4⟩ := r.own
  cases h2
  obtain ⟨pre, mid, post, rfl, f1, f2, f3⟩ := h1.focus hi
  obtain ⟨v, hv, ho⟩ := f1 e rfl
  rw [List.append_nil] at h3 h4
  obtain ⟨n1, n2, n3⟩ := List.nodup_append.mp h3
  obtain ⟨m1, m2, m3⟩ := List.nodup_append.mp n1
  have hg : ∀ a ∈ mid, A a = none ∧ N a = none := fun a ha => h4 a (by simp [ha])
  obtain ⟨st, sH, nA, nF, fA, k⟩ := r.grow ho.tracked hg
  have fz : Own K (join F (ext N H mid)) (ext N H mid) H v (frz e) [] := ho.frozen st.sN st.sF nF k
  have es : σ.set i (some v) = σ := by
    apply List.ext_getElem?
    intro j
    by_cases hj : i = j
    · subst hj
      rw [hv]
      have : i < σ.length := (List.getElem?_eq_some_iff.mp hv).1
      rw [List.getElem?_set_self this]
    · rw [List.getElem?_set_ne hj]
  have s' := f3 _ _ H (some v) (some (frz e)) [] st.sF st.sN (fun _ _ => rfl) (.inr ⟨v, frz e, rfl, rfl, fz⟩)
  rw [es] at s'
  refine ⟨v, _, _, hv, st, ⟨_, [], s', .cons (fp := []) fz .nil, ?_, fun a ha => ?_⟩, r.sA, sH, nA, nF, fA, r.pin⟩
  · simp only [List.append_nil]
    exact List.nodup_append.mpr ⟨m1, n2, fun a ha b hb => n3 a (by simp [ha]) b hb⟩
  · simp only [List.append_nil] at ha
    have ha' : a ∈ pre ++ mid ++ post := by
      rcases List.mem_append.mp ha with z | z <;> simp [z]
    refine ⟨(h4 a ha').1, ?_⟩
    have : a ∉ mid := fun hb => by
      rcases List.mem_append.mp ha with z | z
      · exact m3 a z a hb rfl
      · exact n3 a (by simp [hb]) a z rfl
    show (if a ∈ mid then H a else N a) = none
    rw [if_neg this]
    exact (h4 a ha').2
/-- .. as data -/
theorem Rp.dat {i : Nat} {e : Et} (r : Rp K A F N H pn σ ρ vs es) (hi : ρ[i]? = some (some e)) : ∃ v, σ[i]? = some (some v) ∧ Dat K H v (toD e) := by
  obtain ⟨fp, gp, h1, h2, h3, h4⟩ := r.own
  obtain ⟨pre, mid, post, rfl, f1, f2, f3⟩ := h1.focus hi
  obtain ⟨v, hv, ho⟩ := f1 e rfl
  exact ⟨v, hv, ho.dat r.sF r.sN fun _ _ _ h => h⟩
theorem Rp.datT {v : V} {e : Et} (r : Rp K A F N H pn σ ρ (v :: vs) (e :: es)) : Dat K H v (toD e) := by
  obtain ⟨fp, gp, h1, h2, h3, h4⟩ := r.own
  cases h2 with
  | cons h t => exact h.dat r.sF r.sN fun _ _ _ h => h
/-- the temp is stored -/
theorem Rp.store {i : Nat} {v : V} {e : Et} (r : Rp K A F N H pn σ ρ [v] [e]) (hi : i < ρ.length) (hp : ∀ p ∈ pn, p.1 ≠ i) : Rp K A F N H pn (σ.set i (some v)) (ρ.set i (some e)) [] [] := by
  obtain ⟨fp, gp, h1, h2, h3, h4⟩ := r.own
  cases h2 with
  | cons h t =>
    cases t
    rename_i g1
    simp only [List.append_nil] at h3 h4
    obtain ⟨pre, mid, post, rfl, f1, f2, f3⟩ := h1.focus (List.getElem?_eq_getElem hi)
    have s' := f3 F N H (some v) (some e) g1 (Same.refl _) (Same.refl _) (fun _ _ => rfl) (.inr ⟨v, e, rfl, rfl, h⟩)
    obtain ⟨n1, n2, n3⟩ := List.nodup_append.mp h3
    refine ⟨⟨_, [], s', .nil, ?_, fun a ha => h4 a ?_⟩, r.sA, r.sN, r.nA, r.nF, r.fA, fun p q => ?_⟩
    · rw [List.append_nil]
      refine nodup_repl n1 n2 fun a ha => .inr ⟨fun hb => n3 a (by simp [hb]) a ha rfl, fun hb => n3 a (by simp [hb]) a ha rfl⟩
    · simp only [List.mem_append, List.append_nil] at ha ⊢
      rcases ha with (z | z) | z <;> simp [z]
    · rw [List.getElem?_set_ne (Ne.symm (hp p q))]
      exact r.pin p q
/-- a slot is forgotten -/
theorem Rp.forget {i : Nat} {y : Option V} (r : Rp K A F N H pn σ ρ vs es) (hi : i < ρ.length) (hp : ∀ p ∈ pn, p.1 ≠ i) : Rp K A F N H pn (σ.set i y) (ρ.set i none) vs es := by
  obtain ⟨fp, gp, h1, h2, h3, h4⟩ := r.own
  obtain ⟨pre, mid, post, rfl, f1, f2, f3⟩ := h1.focus (List.getElem?_eq_getElem hi)
  have s' := f3 F N H y none [] (Same.refl _) (Same.refl _) (fun _ _ => rfl) (.inl ⟨rfl, rfl⟩)
  have sub : ∀ a, a ∈ pre ++ [] ++ post → a ∈ pre ++ mid ++ post := fun a ha => by
    simp only [List.append_nil, List.mem_append] at ha ⊢
    rcases ha with z | z <;> simp [z]
  obtain ⟨n1, n2, n3⟩ := List.nodup_append.mp h3
  refine ⟨⟨_, gp, s', h2, List.nodup_append.mpr ⟨nodup_repl n1 List.nodup_nil (fun a h => nomatch h), n2, fun a ha b hb => n3 a (sub a ha) b hb⟩, fun a ha => h4 a ?_⟩, r.sA, r.sN, r.nA, r.nF, r.fA, fun p q => ?_⟩
  · rcases List.mem_append.mp ha with z | z
    · exact List.mem_append_left _ (sub a z)
    · exact List.mem_append_right _ z
  · rw [List.getElem?_set_ne (Ne.symm (hp p q))]
    exact r.pin p q
/-- a new object over the temps -/
theorem Rp.alloc {p : Addr} {ob : HO} {e : Et} (r : Rp K A F N H pn σ ρ vs es) (np : H p = none) (mk : ∀ gp, Owns K F N (upd H p ob) vs es gp → Own K F N (upd H p ob) (.ref p) e (p :: gp)) : Rp K A F N (upd H p ob) pn σ ρ [.ref p] [e] := by
  have s : Same H (upd H p ob) := fun a o h => by rw [upd_ne (ne_of_none h np)]; exact h
  obtain ⟨fp, gp, h1, h2, h3, h4⟩ := (r.mono s).own
  have hA : A p = none := by
    cases q : A p with
    | none => rfl
    | some o => rw [r.sA p o q] at np; cases np
  have hN : N p = none := by
    cases q : N p with
    | none => rfl
    | some o => rw [r.sN p o q] at np; cases np
  obtain ⟨fp', gp', k1, k2, k3, k4⟩ := r.own
  have h1' : OwnS K F N (upd H p ob) σ ρ fp' := k1.frame (Same.refl _) (Same.refl _) fun a ha => same_at s (k1.tracked a ha)
  have h2' : Owns K F N (upd H p ob) vs es gp' := k2.frame (Same.refl _) (Same.refl _) fun a ha => same_at s (k2.tracked a ha)
  have npf : p ∉ fp' ++ gp' := fun hb => by
    rcases List.mem_append.mp hb with z | z
    · obtain ⟨o, e⟩ := k1.tracked p z
      rw [np] at e; cases e
    · obtain ⟨o, e⟩ := k2.tracked p z
      rw [np] at e; cases e
  obtain ⟨n1, n2, n3⟩ := List.nodup_append.mp k3
  refine ⟨⟨fp', (p :: gp') ++ [], h1', .cons (mk _ h2') .nil, ?_, fun a ha => ?_⟩, r.sA.trans s, r.sN.trans s, r.nA, r.nF, r.fA, r.pin⟩
  · rw [List.append_nil]
    refine List.nodup_append.mpr ⟨n1, List.nodup_cons.mpr ⟨fun hb => npf (by simp [hb]), n2⟩, fun a ha b hb e => ?_⟩
    subst e
    rcases List.mem_cons.mp hb with z | z
    · exact npf (by rw [← z]; simp [ha])
    · exact n3 a ha a z rfl
  · simp only [List.append_nil, List.mem_append, List.mem_cons] at ha
    rcases ha with z | z | z
    · exact k4 a (by simp [z])
    · subst z; exact ⟨hA, hN⟩
    · exact k4 a (by simp [z])
end Qs
namespace Qs
open PySem PySem.Spec PyProof.Rows L2
variable [CTab]
/-! ### readings -/
/-- the slots as data over Z, a part of H -/
structure Rv (K : PySem.W.Frag) (Z H : Hp) (σ : L2.St) (ρ : En) : Prop where
  s : Same Z H
  l : σ.length = ρ.length
  d : ∀ (i : Nat) e, ρ[i]? = some (some e) → ∃ v, σ[i]? = some (some v) ∧ Dat K Z v (toD e)
/-- H grows, and Z with it by new things alone -/
structure Gr (Z H Z' H' : Hp) : Prop where
  h : Same H H'
  z : Same Z Z'
  s : Same Z' H'
  n : ∀ a o, Z' a = some o → Z a = some o ∨ H a = none
theorem Gr.refl {Z H : Hp} (s : Same Z H) : Gr Z H Z H := ⟨Same.refl _, Same.refl _, s, fun _ _ h => .inl h⟩
theorem Gr.trans {Z H Z1 H1 Z2 H2 : Hp} (a : Gr Z H Z1 H1) (b : Gr Z1 H1 Z2 H2) : Gr Z H Z2 H2 := ⟨a.h.trans b.h, a.z.trans b.z, b.s, fun x o h => (b.n x o h).elim (a.n x o) fun h => .inr (a.h.free h)⟩
theorem Gr.new {Z H : Hp} (s : Same Z H) {p : Addr} (np : H p = none) (o : HO) : Gr Z H (upd Z p o) (upd H p o) := by
  refine ⟨fun a u h => by rw [upd_ne (ne_of_none h np)]; exact h, fun a u h => by rw [upd_ne (ne_of_none (s a u h) np)]; exact h, fun a u h => ?_, fun a u h => ?_⟩
  · by_cases e : a = p
    · subst e; rw [upd_same] at h ⊢; exact h
    · rw [upd_ne e] at h ⊢; exact s a u h
  · by_cases e : a = p
    · subst e; exact .inr np
    · rw [upd_ne e] at h; exact .inl h
theorem Rv.gr {K : PySem.W.Frag} {Z H Z' H' : Hp} {σ : L2.St} {ρ : En} (r : Rv K Z H σ ρ) (g : Gr Z H Z' H') : Rv K Z' H' σ ρ := ⟨g.s, r.l, fun i e h => let ⟨v, a, b⟩ := r.d i e h; ⟨v, a, b.mono g.z⟩⟩
/-- all that is known, as data over the whole heap -/
theorem Rp.rv {K : PySem.W.Frag} {A F N H : Hp} {pn : List (Nat × V)} {σ : L2.St} {ρ : En} {vs : List V} {es : List Et} (r : Rp K A F N H pn σ ρ vs es) : Rv K H H σ ρ := ⟨Same.refl _, let ⟨_, _, h, _⟩ := r.own; h.len, fun i e h => r.dat h⟩
/-- a pure expression: data out of the slots -/
def tP (K : PySem.W.Frag) (f : En → Option Dt) : TE := fun σ H Q => ∃ Z ρ d, Rv K Z H σ ρ ∧ f ρ = some d ∧ ∀ v H' Z', Gr Z H Z' H' → Dat K Z' v d → Q v H'
def tB (K : PySem.W.Frag) (f : En → Option Bool) : TT := fun σ H Q => ∃ Z ρ b, Rv K Z H σ ρ ∧ f ρ = some b ∧ ∀ H' Z', Gr Z H Z' H' → Q b H'
def tPs (K : PySem.W.Frag) (f : En → Option (List Dt)) : TA := fun σ H Q => ∃ Z ρ ds, Rv K Z H σ ρ ∧ f ρ = some ds ∧ ∀ vs H' Z', Gr Z H Z' H' → Dats K Z' vs ds → Q vs H'
theorem _root_.L2.PE.weak {X : Cx} {e : Expr} {t u : TE} (h : PE X e t) (k : ∀ σ H Q, u σ H Q → t σ H Q) : PE X e u := ⟨fun pins s σ H Q I q => h.run pins s σ H Q I (k σ H Q q)⟩
theorem _root_.L2.PT.weak {X : Cx} {e : Expr} {t u : TT} (h : PT X e t) (k : ∀ σ H Q, u σ H Q → t σ H Q) : PT X e u := ⟨fun pins s σ H Q I q => h.run pins s σ H Q I (k σ H Q q)⟩
theorem _root_.L2.PW.weak {X : Cx} {e : Expr} {t u : TT} (h : PW X e t) (k : ∀ σ H Q, u σ H Q → t σ H Q) : PW X e u := ⟨fun wh pins s σ H Q I q => h.run wh pins s σ H Q I (k σ H Q q)⟩
theorem _root_.L2.PA.weak {X : Cx} {es : List Expr} {t u : TA} (h : PA X es t) (k : ∀ σ H Q, u σ H Q → t σ H Q) : PA X es u := ⟨fun pos pins s σ H Q I q => h.run pos pins s σ H Q I (k σ H Q q)⟩
theorem _root_.L2.PS.weak {X : Cx} {st : Stmt} {t u : TS} (h : PS X st t) (k : ∀ D σ H, u D σ H → t D σ H) : PS X st u := ⟨fun pins s σ H D I q => h.run pins s σ H D I (k D σ H q)⟩
theorem _root_.L2.PSs.weak {X : Cx} {st : List Stmt} {t u : TS} (h : PSs X st t) (k : ∀ D σ H, u D σ H → t D σ H) : PSs X st u := ⟨fun pins s σ H D I q => h.run pins s σ H D I (k D σ H q)⟩
variable {X : Cx} {a b c e : Expr} {f g h : En → Option Dt} {pos : Pos}
abbrev QP (X : Cx) (e : Expr) (f : En → Option Dt) : Prop := PE X e (tP X.K f)
abbrev QB (X : Cx) (e : Expr) (f : En → Option Bool) : Prop := PT X e (tB X.K f)
abbrev QPs (X : Cx) (es : List Expr) (f : En → Option (List Dt)) : Prop := PA X es (tPs X.K f)
/-! ### the functions -/
def pV (i : Nat) : En → Option Dt := fun ρ => match ρ[i]? with | some (some e) => some (toD e) | _ => none
def pC (d : Dt) : En → Option Dt := fun _ => some d
def pU (s : Dt → Option Dt) (f : En → Option Dt) : En → Option Dt := fun ρ => (f ρ).bind s
def pO (s : Dt → Dt → Option Dt) (f g : En → Option Dt) : En → Option Dt := fun ρ => (f ρ).bind fun x => (g ρ).bind fun y => s x y
def pN (s : List Dt → Option Dt) (f : En → Option (List Dt)) : En → Option Dt := fun ρ => (f ρ).bind s
def aNil : En → Option (List Dt) := fun _ => some []
def aCons (f : En → Option Dt) (g : En → Option (List Dt)) : En → Option (List Dt) := fun ρ => (f ρ).bind fun x => (g ρ).bind fun xs => some (x :: xs)
def bP (f : En → Option Dt) : En → Option Bool := fun ρ => match f ρ with | some (.bl b) => some b | _ => none
def bNot (f : En → Option Bool) : En → Option Bool := fun ρ => (f ρ).map (!·)
def bAnd (f g : En → Option Bool) : En → Option Bool := fun ρ => (f ρ).bind fun b => if b = true then g ρ else some false
def bOr (f g : En → Option Bool) : En → Option Bool := fun ρ => (f ρ).bind fun b => if b = true then some true else g ρ
def pIf (c : En → Option Bool) (f g : En → Option Dt) : En → Option Dt := fun ρ => (c ρ).bind fun b => if b = true then f ρ else g ρ
def pB (f : En → Option Bool) : En → Option Dt := fun ρ => (f ρ).map .bl
theorem bindS {α β : Type} {o : Option α} {k : α → Option β} {r : β} (h : o.bind k = some r) : ∃ x, o = some x ∧ k x = some r := by
  cases o with
  | none => cases h
  | some x => exact ⟨x, rfl, h⟩
theorem mapS {α β : Type} {o : Option α} {k : α → β} {r : β} (h : o.map k = some r) : ∃ x, o = some x ∧ k x = r := by
  cases o with
  | none => cases h
  | some x => exact ⟨x, rfl, Option.some.inj h⟩
/-! ### rules of pure expressions -/
theorem q_var {i : Nat} {x : Str} (hN : X.N[i]? = some x := by rfl) (hv : Vis X.env.scope x := by first | exact Or.inl rfl | exact Or.inr (Or.inl rfl) | exact Or.inr (Or.inr rfl)) (hd : (x == ("__debug__" : Str)) = false := by decide) (hcd : (x == ("__classdict__" : Str)) = false := by decide) : QP X (.Name x pos) (pV i) :=
  (pe_var hN hv hd hcd).weak fun σ H Q ⟨Z, ρ, d, r, hf, k⟩ => by
    unfold pV at hf
    split at hf
    · rename_i e he
      cases hf
      obtain ⟨v, hv, hd⟩ := r.d _ _ he
      exact ⟨v, hv, k v H Z (Gr.refl r.s) hd⟩
    · cases hf
theorem q_const {v : V} {d : Dt} (h : PE X e (tC v)) (hd : ∀ H, Dat X.K H v d) : QP X e (pC d) := h.weak fun σ H Q ⟨Z, ρ, d', r, hf, k⟩ => by
  cases hf
  exact k v H Z (Gr.refl r.s) (hd Z)
theorem q_int {i j} : QP X (.Constant (.int i) j pos) (pC (.int i)) := q_const pe_int fun _ => .int
theorem q_bl {b j} : QP X (.Constant (.bool b) j pos) (pC (.bl b)) := q_const pe_bl fun _ => .bl
theorem q_non {j} : QP X (.Constant .none j pos) (pC .non) := q_const pe_non fun _ => .non
theorem q_str {x j} : QP X (.Constant (.str x) j pos) (pC (.str x)) := q_const pe_str fun _ => .str
theorem q_glob {x : Str} {v : V} {d : Dt} {u : Value} (hg : Gl X x) (hm : X.mg x = some u) (r : RelV v u) (hd : ∀ H, Dat X.K H v d) (hn : (x == ("__debug__" : Str)) = false := by decide) : QP X (.Name x pos) (pC d) := q_const (pe_glob hg hm r hn) hd
/-- two values, one after the other -/
theorem two {f g : En → Option Dt} {s : Dt → Dt → Option Dt} {K : PySem.W.Frag} {σ : L2.St} {H : Hp} {Q : VK} {R : V → V → Hp → Prop} (h : tP K (pO s f g) σ H Q)
    (k : ∀ x y d v u Z H2, s x y = some d → Same Z H2 → Dat K Z v x → Dat K Z u y → (∀ w H' Z', Gr Z H2 Z' H' → Dat K Z' w d → Q w H') → R v u H2) : tP K f σ H fun x H1 => tP K g σ H1 fun y H2 => R x y H2 := by
  obtain ⟨Z, ρ, d, r, hf, kk⟩ := h
  obtain ⟨x, hx, hf⟩ := bindS hf
  obtain ⟨y, hy, hf⟩ := bindS hf
  exact ⟨Z, ρ, x, r, hx, fun v H1 Z1 g1 d1 => ⟨Z1, ρ, y, r.gr g1, hy, fun u H2 Z2 g2 d2 => k x y d v u Z2 H2 hf g2.s (d1.mono g2.z) d2 fun w H' Z' g3 d3 => kk w H' Z' ((g1.trans g2).trans g3) d3⟩⟩
theorem one {f : En → Option Dt} {s : Dt → Option Dt} {K : PySem.W.Frag} {σ : L2.St} {H : Hp} {Q : VK} {R : V → Hp → Prop} (h : tP K (pU s f) σ H Q)
    (k : ∀ x d v Z H2, s x = some d → Same Z H2 → Dat K Z v x → (∀ w H' Z', Gr Z H2 Z' H' → Dat K Z' w d → Q w H') → R v H2) : tP K f σ H R := by
  obtain ⟨Z, ρ, d, r, hf, kk⟩ := h
  obtain ⟨x, hx, hf⟩ := bindS hf
  exact ⟨Z, ρ, x, r, hx, fun v H1 Z1 g1 d1 => k x d v Z1 H1 hf g1.s d1 fun w H' Z' g3 d3 => kk w H' Z' (g1.trans g3) d3⟩
/-- what an operation by values does, on data -/
def SO (K : PySem.W.Frag) (r : R2) (s : Dt → Dt → Option Dt) : Prop := ∀ x y d v u Z H Q, s x y = some d → Same Z H → Dat K Z v x → Dat K Z u y → (∀ w H' Z', Gr Z H Z' H' → Dat K Z' w d → Q w H') → r v u H Q
theorem q_op {op : Operator} {r : R2} {s : Dt → Dt → Option Dt} (ho : OpR X (binaryOp op) r) (hs : SO X.K r s) (ha : QP X a f) (hb : QP X b g) : QP X (.BinOp a op b pos) (pO s f g) :=
  (pe_op ho ha hb).weak fun σ H Q h => two h fun x y d v u Z H2 e s d1 d2 k => hs x y d v u Z H2 Q e s d1 d2 k
theorem q_un {op : UnaryOp} {r : V → Hp → VK → Prop} {s : Dt → Option Dt} (ho : UnR X (unaryOp op) r) (hs : ∀ x d v Z H Q, s x = some d → Same Z H → Dat X.K Z v x → (∀ w H' Z', Gr Z H Z' H' → Dat X.K Z' w d → Q w H') → r v H Q) (ha : QP X a f) : QP X (.UnaryOp op a pos) (pU s f) :=
  (pe_un ho ha).weak fun σ H Q h => one h fun x d v Z H2 e s d1 k => hs x d v Z H2 Q e s d1 k
theorem q_cmp {op : CmpOp} {r : R2} {s : Dt → Dt → Option Dt} (ho : OpR X (compareOp op) r) (hs : SO X.K r s) (ha : QP X a f) (hb : QP X b g) (hm : behindInMarks op b = false := by first | exact nomark _ (by decide) (by decide) | rfl) : QP X (.Compare a [op] [b] pos) (pO s f g) :=
  (pe_cmpR ho ha hb hm).weak fun σ H Q h => two h fun x y d v u Z H2 e s d1 d2 k => hs x y d v u Z H2 Q e s d1 d2 k
theorem tB_test {t : TE} {f : En → Option Dt} {K : PySem.W.Frag} (k : ∀ σ H Q, tP K f σ H Q → t σ H Q) (σ : L2.St) (H : Hp) (Q : Bool → Hp → Prop) (h : Qs.tB K (bP f) σ H Q) : t σ H fun x H' => ∃ b, x = .bl b ∧ Q b H' := by
  obtain ⟨Z, ρ, b, r, hf, kk⟩ := h
  refine k σ H _ ⟨Z, ρ, .bl b, r, ?_, fun v H' Z' s d => ?_⟩
  · unfold bP at hf
    split at hf
    · cases hf; assumption
    · cases hf
  · cases d
    exact ⟨b, rfl, kk H' Z' s⟩
theorem b_cmp {op : CmpOp} {r : R2} {s : Dt → Dt → Option Dt} (ho : OpR X (compareOp op) r) (hs : SO X.K r s) (ha : QP X a f) (hb : QP X b g) (hm : behindInMarks op b = false := by first | exact nomark _ (by decide) (by decide) | rfl) : QB X (.Compare a [op] [b] pos) (bP (pO s f g)) :=
  (pt_cmpR ho ha hb hm).weak fun σ H Q h => tB_test (fun σ H Q h => two h fun x y d v u Z H2 e s d1 d2 k => hs x y d v u Z H2 Q e s d1 d2 k) σ H Q h
/-- a <= b < c -/
def pCh (s s' : Dt → Dt → Option Dt) (f g h : En → Option Dt) : En → Option Dt := fun ρ => (f ρ).bind fun x => (g ρ).bind fun y => (s x y).bind fun z => match z with
  | .bl true => (h ρ).bind fun w => s' y w
  | .bl false => some (.bl false)
  | _ => none
theorem chain_rd {r r' : R2} {s s' : Dt → Dt → Option Dt} {K : PySem.W.Frag} (hs : SO K r s) (hs' : SO K r' s') (σ : L2.St) (H : Hp) (Q : VK) (q : tP K (pCh s s' f g h) σ H Q) : tChain r r' (tP K f) (tP K g) (tP K h) σ H Q := by
  obtain ⟨Z, ρ, d, R, hf, kk⟩ := q
  obtain ⟨x, hx, hf⟩ := bindS hf
  obtain ⟨y, hy, hf⟩ := bindS hf
  obtain ⟨z, hz, hf⟩ := bindS hf
  refine ⟨Z, ρ, x, R, hx, fun v H1 Z1 g1 d1 => ⟨Z1, ρ, y, R.gr g1, hy, fun u H2 Z2 g2 d2 => hs x y z v u Z2 H2 _ hz g2.s (d1.mono g2.z) d2 fun w H3 Z3 g3 d3 => ?_⟩⟩
  cases z <;> first | (cases hf; done) | skip
  rename_i k
  cases d3
  refine ⟨k, rfl, ?_⟩
  cases k with
  | false =>
    cases hf
    exact kk _ H3 Z3 ((g1.trans g2).trans g3) .bl
  | true =>
    obtain ⟨w, hw, hf⟩ := bindS hf
    exact ⟨Z3, ρ, w, R.gr ((g1.trans g2).trans g3), hw, fun t H4 Z4 g4 d4 => hs' y w d u t Z4 H4 Q hf g4.s (d2.mono (g3.z.trans g4.z)) d4 fun t' H5 Z5 g5 d5 => kk t' H5 Z5 ((((g1.trans g2).trans g3).trans g4).trans g5) d5⟩
theorem q_chain {op op' : CmpOp} {r r' : R2} {s s' : Dt → Dt → Option Dt} (ho : OpR X (compareOp op) r) (ho' : OpR X (compareOp op') r') (hs : SO X.K r s) (hs' : SO X.K r' s') (ha : QP X a f) (hb : QP X b g) (hc : QP X c h)
    (hm : lastMarks [op, op'] [b, c] = false := by with_unfolding_all rfl) : QP X (.Compare a [op, op'] [b, c] pos) (pCh s s' f g h) := (pe_chain ho ho' ha hb hc hm).weak (chain_rd hs hs')
theorem b_chain {op op' : CmpOp} {r r' : R2} {s s' : Dt → Dt → Option Dt} (ho : OpR X (compareOp op) r) (ho' : OpR X (compareOp op') r') (hs : SO X.K r s) (hs' : SO X.K r' s') (ha : QP X a f) (hb : QP X b g) (hc : QP X c h)
    (hm : lastMarks [op, op'] [b, c] = false := by with_unfolding_all rfl) : QB X (.Compare a [op, op'] [b, c] pos) (bP (pCh s s' f g h)) := (pt_chain ho ho' ha hb hc hm).weak fun σ H Q q => tB_test (chain_rd hs hs') σ H Q q
/-- a value that is a bool, as a test -/
theorem b_val (ha : QP X e f) (he : ∀ whole, isTrue e X.env whole = (do let v ← whole; standAt e.pos; holding [v] (truthy v)) := by intro _; rfl) : QB X e (bP f) :=
  (pt_val ha he).weak fun σ H Q h => tB_test (fun _ _ _ h => h) σ H Q h
theorem b_not {f : En → Option Bool} (ha : QB X a f) : QB X (.UnaryOp .Not a pos) (bNot f) := (pt_not ha).weak fun σ H Q ⟨Z, ρ, b, r, hf, k⟩ => by
  obtain ⟨x, hx, e⟩ := mapS hf
  subst e
  exact ⟨Z, ρ, x, r, hx, fun H' Z' s => k H' Z' s⟩
section
variable {f g : En → Option Bool} {rest : List Expr}
abbrev QW (X : Cx) (e : Expr) (f : En → Option Bool) : Prop := PW X e (Qs.tB X.K f)
theorem w_and1 (ha : QB X a f) : QW X (.BoolOp .And [a] pos) f := pw_and1 ha
theorem w_or1 (ha : QB X a f) : QW X (.BoolOp .Or [a] pos) f := pw_or1 ha
theorem w_and (ha : QB X a f) (hb : QW X (.BoolOp .And (b :: rest) pos) g) : QW X (.BoolOp .And (a :: b :: rest) pos) (bAnd f g) := (pw_and ha hb).weak fun σ H Q ⟨Z, ρ, d, r, hf, k⟩ => by
  obtain ⟨x, hx, hf⟩ := bindS hf
  refine ⟨Z, ρ, x, r, hx, fun H' Z' s => ?_⟩
  cases x with
  | true => exact ⟨Z', ρ, d, r.gr s, hf, fun H2 Z2 s2 => k H2 Z2 (s.trans s2)⟩
  | false =>
    cases hf
    exact k H' Z' s
theorem w_or (ha : QB X a f) (hb : QW X (.BoolOp .Or (b :: rest) pos) g) : QW X (.BoolOp .Or (a :: b :: rest) pos) (bOr f g) := (pw_or ha hb).weak fun σ H Q ⟨Z, ρ, d, r, hf, k⟩ => by
  obtain ⟨x, hx, hf⟩ := bindS hf
  refine ⟨Z, ρ, x, r, hx, fun H' Z' s => ?_⟩
  cases x with
  | true =>
    cases hf
    exact k H' Z' s
  | false => exact ⟨Z', ρ, d, r.gr s, hf, fun H2 Z2 s2 => k H2 Z2 (s.trans s2)⟩
theorem b_w (h : QW X e f) : QB X e f := h.pt
/-- and, or, not as values: of bools -/
def pAnd (f g : En → Option Dt) : En → Option Dt := fun ρ => (f ρ).bind fun x => match x with | .bl true => g ρ | .bl false => some (.bl false) | _ => none
def pOr (f g : En → Option Dt) : En → Option Dt := fun ρ => (f ρ).bind fun x => match x with | .bl true => some (.bl true) | .bl false => g ρ | _ => none
def pNot (f : En → Option Dt) : En → Option Dt := fun ρ => (f ρ).bind fun x => match x with | .bl b => some (.bl (!b)) | _ => none
end
theorem q_one {op} (ha : QP X a f) : QP X (.BoolOp op [a] pos) f := pe_one ha
theorem q_and {rest : List Expr} (ha : QP X a f) (hb : QP X (.BoolOp .And (b :: rest) pos) g) : QP X (.BoolOp .And (a :: b :: rest) pos) (pAnd f g) := (pe_and ha hb).weak fun σ H Q ⟨Z, ρ, d, r, hf, k⟩ => by
  obtain ⟨x, hx, hf⟩ := bindS hf
  refine ⟨Z, ρ, x, r, hx, fun v H' Z' s dv => ?_⟩
  cases x <;> first | cases hf | skip
  rename_i c
  cases dv
  refine ⟨c, rfl, ?_⟩
  cases c with
  | true => exact ⟨Z', ρ, d, r.gr s, hf, fun v H2 Z2 s2 => k v H2 Z2 (s.trans s2)⟩
  | false =>
    cases hf
    exact k _ H' Z' s .bl
theorem q_or {rest : List Expr} (ha : QP X a f) (hb : QP X (.BoolOp .Or (b :: rest) pos) g) : QP X (.BoolOp .Or (a :: b :: rest) pos) (pOr f g) := (pe_or ha hb).weak fun σ H Q ⟨Z, ρ, d, r, hf, k⟩ => by
  obtain ⟨x, hx, hf⟩ := bindS hf
  refine ⟨Z, ρ, x, r, hx, fun v H' Z' s dv => ?_⟩
  cases x <;> first | cases hf | skip
  rename_i c
  cases dv
  refine ⟨c, rfl, ?_⟩
  cases c with
  | true =>
    cases hf
    exact k _ H' Z' s .bl
  | false => exact ⟨Z', ρ, d, r.gr s, hf, fun v H2 Z2 s2 => k v H2 Z2 (s.trans s2)⟩
theorem q_not (ha : QP X a f) : QP X (.UnaryOp .Not a pos) (pNot f) := (pe_not ha).weak fun σ H Q ⟨Z, ρ, d, r, hf, k⟩ => by
  obtain ⟨x, hx, hf⟩ := bindS hf
  refine ⟨Z, ρ, x, r, hx, fun v H' Z' s dv => ?_⟩
  cases x <;> first | cases hf | skip
  rename_i c
  cases dv
  exact ⟨c, rfl, k _ H' Z' s .bl⟩
theorem q_ife {c : Expr} {t : En → Option Bool} (hc : QB X c t) (ha : QP X a f) (hb : QP X b g) : QP X (.IfExp c a b pos) (pIf t f g) := (pe_ifExp hc ha hb).weak fun σ H Q ⟨Z, ρ, d, r, hf, k⟩ => by
  obtain ⟨x, hx, hf⟩ := bindS hf
  refine ⟨Z, ρ, x, r, hx, fun H' Z' s => ?_⟩
  cases x with
  | true => exact ⟨Z', ρ, d, r.gr s, hf, fun v H2 Z2 s2 => k v H2 Z2 (s.trans s2)⟩
  | false => exact ⟨Z', ρ, d, r.gr s, hf, fun v H2 Z2 s2 => k v H2 Z2 (s.trans s2)⟩
/-! ### arguments -/
theorem a_nil : QPs X [] aNil := pa_nil.weak fun σ H Q ⟨Z, ρ, ds, r, hf, k⟩ => by
  cases hf
  exact k [] H Z (Gr.refl r.s) .nil
theorem a_cons {es : List Expr} {g : En → Option (List Dt)} (ha : QP X e f) (hr : QPs X es g) (hs : starEach (e :: es) X.env = (false, eval e X.env) :: starEach es X.env := by rfl) : QPs X (e :: es) (aCons f g) := (pa_cons ha hr hs).weak fun σ H Q ⟨Z, ρ, ds, r, hf, k⟩ => by
  obtain ⟨x, hx, hf⟩ := bindS hf
  obtain ⟨y, hy, hf⟩ := bindS hf
  cases hf
  exact ⟨Z, ρ, x, r, hx, fun v H1 Z1 g1 d1 => ⟨Z1, ρ, y, r.gr g1, hy, fun vs H2 Z2 g2 d2 => k (v :: vs) H2 Z2 (g1.trans g2) (.cons (d1.mono g2.z) d2)⟩⟩
/-- what is made of arguments by values -/
def SN (K : PySem.W.Frag) (r : List V → Hp → VK → Prop) (s : List Dt → Option Dt) : Prop := ∀ ds d vs Z H Q, s ds = some d → Same Z H → Dats K Z vs ds → (∀ w H' Z', Gr Z H Z' H' → Dat K Z' w d → Q w H') → r vs H Q
theorem argsP {f : En → Option (List Dt)} {s : List Dt → Option Dt} {K : PySem.W.Frag} {σ : L2.St} {H : Hp} {Q : VK} {R : List V → Hp → Prop} (h : tP K (pN s f) σ H Q)
    (k : ∀ ds d vs Z H2, s ds = some d → Same Z H2 → Dats K Z vs ds → (∀ w H' Z', Gr Z H2 Z' H' → Dat K Z' w d → Q w H') → R vs H2) : tPs K f σ H R := by
  obtain ⟨Z, ρ, d, r, hf, kk⟩ := h
  obtain ⟨x, hx, hf⟩ := bindS hf
  exact ⟨Z, ρ, x, r, hx, fun v H1 Z1 g1 d1 => k x d v Z1 H1 hf g1.s d1 fun w H' Z' g3 d3 => kk w H' Z' (g1.trans g3) d3⟩
theorem q_bi {x : Str} {id : String} {r : List V → Hp → VK → Prop} {es : List Expr} {p : Pos} {s : List Dt → Option Dt} {f : En → Option (List Dt)} (hc : CallR X (.builtin id) r) (hs : SN X.K r s) (hm : X.mg x = none) (hv : bootBuiltins x = some (.builtin id)) (ha : QPs X (e :: es) f)
    (hg : Gl X x := by rfl) (hn : x ≠ "__name__" := by decide) (hdb : (x == ("__debug__" : Str)) = false := by decide)
    (h1 : starEach (e :: es) X.env = (false, eval e X.env) :: starEach es X.env := by rfl) (h2 : (backTo pos (starEach es X.env)).any (·.1) = false := by rfl) : QP X (.Call (.Name x p) (e :: es) [] pos) (pN s f) :=
  (pe_callB hc hg hm hv ha hn hdb h1 h2).weak fun σ H Q h => argsP h fun ds d vs Z H2 e1 s d1 k => hs ds d vs Z H2 Q e1 s d1 k
theorem q_ty {x : Str} {T : String} {r : List V → Hp → VK → Prop} {es : List Expr} {p : Pos} {s : List Dt → Option Dt} {f : En → Option (List Dt)} (hc : CallR X (.type T) r) (hs : SN X.K r s) (hm : X.mg x = none) (hv : bootBuiltins x = some (.type T)) (ha : QPs X (e :: es) f)
    (hg : Gl X x := by rfl) (hn : x ≠ "__name__" := by decide) (hdb : (x == ("__debug__" : Str)) = false := by decide)
    (h1 : starEach (e :: es) X.env = (false, eval e X.env) :: starEach es X.env := by rfl) (h2 : (backTo pos (starEach es X.env)).any (·.1) = false := by rfl) : QP X (.Call (.Name x p) (e :: es) [] pos) (pN s f) :=
  (pe_callTy hc hg hm hv ha hn hdb h1 h2).weak fun σ H Q h => argsP h fun ds d vs Z H2 e1 s d1 k => hs ds d vs Z H2 Q e1 s d1 k
end Qs
namespace Qs
open PySem PySem.Spec PyProof.Rows L2
variable [CTab]
variable {X : Cx} {K : PySem.W.Frag}
/-! ### ints -/
def dI (k : Int → Int → Option Dt) : Dt → Dt → Option Dt
  | .int i, .int j => k i j
  | _, _ => none
def sAdd := dI fun i j => some (.int (i + j))
def sSub := dI fun i j => some (.int (i - j))
def cMul (i j : Int) : Bool := (decide (-(2 ^ 64) < i) && decide (i < 2 ^ 64)) || (decide (-(2 ^ 64) < j) && decide (j < 2 ^ 64))
def sMul := dI fun i j => if cMul i j = true then some (.int (i * j)) else none
def sDiv := dI fun i j => if 0 < j ∧ j < 1073741824 then some (.int (i / j)) else none
def sMod := dI fun i j => if 0 < j then some (.int (i % j)) else none
def sPow := dI fun i j => if 0 ≤ j ∧ j ≤ 1000000 ∧ i.natAbs < 2 ^ 64 then some (.int (i ^ j.toNat)) else none
def sShl := dI fun i j => if 0 ≤ j ∧ j ≤ 1000000 ∧ i.natAbs < 2 ^ 64 then some (.int (i * 2 ^ j.toNat)) else none
def sShr := dI fun i j => if 0 ≤ j then some (.int (i / 2 ^ j.toNat)) else none
def sAnd := dI fun i j => some (.int (Builtin.bitAnd i j))
def sOr := dI fun i j => some (.int (Builtin.bitOr i j))
def sXor := dI fun i j => some (.int (Builtin.bitXor i j))
def sLt := dI fun i j => some (.bl (decide (i < j)))
def sLe := dI fun i j => some (.bl (decide (i ≤ j)))
def sGt := dI fun i j => some (.bl (decide (j < i)))
def sGe := dI fun i j => some (.bl (decide (j ≤ i)))
theorem so_I {r : R2} {k : Int → Int → Option Dt} (h : ∀ i j d, k i j = some d → ∀ Z H Q, Same Z H → (∀ w H' Z', Gr Z H Z' H' → Dat K Z' w d → Q w H') → r (.int i) (.int j) H Q) : SO K r (dI k) := fun x y d v u Z H Q e s d1 d2 q => by
  unfold dI at e
  split at e
  · cases d1
    cases d2
    exact h _ _ d e Z H Q s q
  · cases e
theorem so_I0 {g : Int → Int → V} {k : Int → Int → Dt} (h : ∀ i j H, Dat K H (g i j) (k i j)) : SO K (rI0 g) (dI fun i j => some (k i j)) := so_I fun i j d e Z H Q s q => by
  cases e
  exact ⟨i, j, rfl, rfl, q _ H Z (Gr.refl s) (h i j Z)⟩
theorem so_add : SO K (rI0 fun i j => .int (i + j)) sAdd := so_I0 fun _ _ _ => .int
theorem so_sub : SO K (rI0 fun i j => .int (i - j)) sSub := so_I0 fun _ _ _ => .int
theorem so_and : SO K (rI0 fun i j => .int (Builtin.bitAnd i j)) sAnd := so_I0 fun _ _ _ => .int
theorem so_or : SO K (rI0 fun i j => .int (Builtin.bitOr i j)) sOr := so_I0 fun _ _ _ => .int
theorem so_xor : SO K (rI0 fun i j => .int (Builtin.bitXor i j)) sXor := so_I0 fun _ _ _ => .int
theorem so_lt : SO K (rI0 fun i j => .bl (decide (i < j))) sLt := so_I0 fun _ _ _ => .bl
theorem so_le : SO K (rI0 fun i j => .bl (decide (i ≤ j))) sLe := so_I0 fun _ _ _ => .bl
theorem so_gt : SO K (rI0 fun i j => .bl (decide (j < i))) sGt := so_I0 fun _ _ _ => .bl
theorem so_ge : SO K (rI0 fun i j => .bl (decide (j ≤ i))) sGe := so_I0 fun _ _ _ => .bl
theorem so_IC {C : Int → Int → Prop} {g : Int → Int → V} {P : Int → Int → Prop} [∀ i j, Decidable (P i j)] {k : Int → Int → Dt} (hC : ∀ i j, P i j → C i j) (h : ∀ i j H, Dat K H (g i j) (k i j)) : SO K (rI C g) (dI fun i j => if P i j then some (k i j) else none) := so_I fun i j d e Z H Q s q => by
  split at e
  · rename_i p
    cases e
    exact ⟨i, j, rfl, rfl, hC i j p, q _ H Z (Gr.refl s) (h i j Z)⟩
  · cases e
theorem so_mul : SO K (rI CMul fun i j => .int (i * j)) sMul := so_IC (fun i j h => by
  unfold cMul at h
  simp only [Bool.or_eq_true, Bool.and_eq_true, decide_eq_true_eq] at h
  exact h) fun _ _ _ => .int
theorem so_div : SO K (rI CDiv fun i j => .int (i / j)) sDiv := so_IC (fun _ _ h => h) fun _ _ _ => .int
theorem so_mod : SO K (rI (fun _ j => 0 < j) fun i j => .int (i % j)) sMod := so_IC (fun _ _ h => h) fun _ _ _ => .int
theorem so_pow : SO K (rI CPow fun i j => .int (i ^ j.toNat)) sPow := so_IC (fun _ _ h => h) fun _ _ _ => .int
theorem so_shl : SO K (rI CPow fun i j => .int (i * 2 ^ j.toNat)) sShl := so_IC (fun _ _ h => h) fun _ _ _ => .int
theorem so_shr : SO K (rI (fun _ j => 0 ≤ j) fun i j => .int (i / 2 ^ j.toNat)) sShr := so_IC (fun _ _ h => h) fun _ _ _ => .int
def sNeg : Dt → Option Dt | .int i => some (.int (-i)) | _ => none
theorem su_neg (x d : Dt) (v : V) (Z H : Hp) (Q : VK) (e : sNeg x = some d) (s : Same Z H) (dv : Dat K Z v x) (q : ∀ w H' Z', Gr Z H Z' H' → Dat K Z' w d → Q w H') : rU (fun i => .int (-i)) v H Q := by
  unfold sNeg at e
  split at e
  · cases e
    cases dv
    exact ⟨_, rfl, q _ H Z (Gr.refl s) .int⟩
  · cases e
/-! ### == -/
mutual
def toPy : Dt → Option PyData
  | .non => some .none
  | .bl b => some (.bool b)
  | .int i => some (.int i)
  | .str x => some (.str x)
  | .lst ds => (toPys ds).map .list
  | .tup ds => (toPys ds).map .tuple
  | .dic _ => none
  | .ob _ _ => none
  | .top => none
  | .rl ds => (toPys ds).map .list
def toPys : List Dt → Option (List PyData)
  | [] => some []
  | d :: ds => (toPy d).bind fun p => (toPys ds).map fun ps => p :: ps
end
mutual
theorem toPy_dp {H : Hp} : ∀ {d : Dt} {v : V} {p : PyData}, Dat K H v d → toPy d = some p → Dp K H v p
  | .non, _, _, h, e => by
    cases h; simp only [toPy, Option.some.injEq] at e; subst e; exact .non
  | .bl b, _, _, h, e => by
    cases h; simp only [toPy, Option.some.injEq] at e; subst e; exact .bl b
  | .int i, _, _, h, e => by
    cases h; simp only [toPy, Option.some.injEq] at e; subst e; exact .int i
  | .str x, _, _, h, e => by
    cases h; simp only [toPy, Option.some.injEq] at e; subst e; exact .str x
  | .lst ds, _, _, h, e => by
    cases h with
    | lst h t =>
      simp only [toPy, Option.map_eq_some_iff] at e
      obtain ⟨ps, e1, e2⟩ := e
      subst e2
      exact .lst (.of h) (toPys_dp t e1)
  | .rl ds, _, _, h, e => by
    cases h with
    | rl h t =>
      simp only [toPy, Option.map_eq_some_iff] at e
      obtain ⟨ps, e1, e2⟩ := e
      subst e2
      exact .lst h (toPys_dp t e1)
  | .tup ds, _, _, h, e => by
    cases h with
    | tup h t =>
      simp only [toPy, Option.map_eq_some_iff] at e
      obtain ⟨ps, e1, e2⟩ := e
      subst e2
      exact .tup h (toPys_dp t e1)
  | .dic _, _, _, _, e => by simp [toPy] at e
  | .ob _ _, _, _, _, e => by simp [toPy] at e
  | .top, _, _, _, e => by simp [toPy] at e
theorem toPys_dp {H : Hp} : ∀ {ds : List Dt} {vs : List V} {ps : List PyData}, Dats K H vs ds → toPys ds = some ps → DpAll K H vs ps
  | [], _, _, h, e => by
    cases h
    simp only [toPys, Option.some.injEq] at e
    subst e
    exact .nil
  | d :: ds, _, _, h, e => by
    cases h with
    | cons h t =>
      simp only [toPys, Option.bind_eq_some_iff, Option.map_eq_some_iff] at e
      obtain ⟨p, e1, ps, e2, e3⟩ := e
      subst e3
      exact .cons (toPy_dp h e1) (toPys_dp t e2)
end
def eqD (x y : Dt) : Option Bool := (toPy x).bind fun p => (toPy y).bind fun q => if SeqAt.shaped p = true ∧ SeqAt.shaped q = true then some (PyData.eqv p q) else none
def sEq (x y : Dt) : Option Dt := (eqD x y).map .bl
def sNe (x y : Dt) : Option Dt := (eqD x y).map fun b => .bl (!b)
theorem eqD_dp {x y : Dt} {b : Bool} (e : eqD x y = some b) {H : Hp} {v u : V} (d1 : Dat K H v x) (d2 : Dat K H u y) : ∃ d e, Dp K H v d ∧ Dp K H u e ∧ SeqAt.shaped d = true ∧ SeqAt.shaped e = true ∧ PyData.eqv d e = b := by
  unfold eqD at e
  obtain ⟨p, hp, e⟩ := bindS e
  obtain ⟨q, hq, e⟩ := bindS e
  split at e
  · rename_i h
    cases e
    exact ⟨p, q, toPy_dp d1 hp, toPy_dp d2 hq, h.1, h.2, rfl⟩
  · cases e
theorem so_eq : SO K (rEqD K) sEq := fun x y d v u Z H Q e s d1 d2 q => by
  obtain ⟨b, hb, e⟩ := mapS e
  subst e
  obtain ⟨p, p', h1, h2, h3, h4, h5⟩ := eqD_dp hb (d1.mono s) (d2.mono s)
  exact ⟨p, p', h1, h2, h3, h4, by rw [h5]; exact q _ H Z (Gr.refl s) .bl⟩
theorem so_ne : SO K (rNeD K) sNe := fun x y d v u Z H Q e s d1 d2 q => by
  obtain ⟨b, hb, e⟩ := mapS e
  subst e
  obtain ⟨p, p', h1, h2, h3, h4, h5⟩ := eqD_dp hb (d1.mono s) (d2.mono s)
  exact ⟨p, p', h1, h2, h3, h4, by rw [h5]; exact q _ H Z (Gr.refl s) .bl⟩
/-! is None -/
def isNon : Dt → Option Bool
  | .non => some true
  | .top => none
  | _ => some false
def sIsN (x y : Dt) : Option Dt := match y with | .non => (isNon x).map .bl | _ => none
def sNotN (x y : Dt) : Option Dt := match y with | .non => (isNon x).map fun b => .bl (!b) | _ => none
theorem isNon_ok {x : Dt} {b : Bool} (e : isNon x = some b) {H : Hp} {v : V} (d : Dat K H v x) : decide (v = .non) = b := by
  cases d <;> simp [isNon] at e <;> subst e <;> simp
theorem so_isN : SO K (fun x y H Q => y = .non ∧ Q (.bl (decide (x = .non))) H) sIsN := fun x y d v u Z H Q e s d1 d2 q => by
  unfold sIsN at e
  split at e
  · obtain ⟨b, hb, e⟩ := mapS e
    subst e
    cases d2
    exact ⟨rfl, by rw [isNon_ok hb d1]; exact q _ H Z (Gr.refl s) .bl⟩
  · cases e
theorem so_notN : SO K (fun x y H Q => y = .non ∧ Q (.bl (!decide (x = .non))) H) sNotN := fun x y d v u Z H Q e s d1 d2 q => by
  unfold sNotN at e
  split at e
  · obtain ⟨b, hb, e⟩ := mapS e
    subst e
    cases d2
    exact ⟨rfl, by rw [isNon_ok hb d1]; exact q _ H Z (Gr.refl s) .bl⟩
  · cases e
/-! ### in -/
def flatD : Dt → Bool
  | .non => true | .bl _ => true | .int _ => true | .str _ => true | _ => false
def eqF : Dt → Dt → Bool
  | .non, .non => true
  | .bl a, .bl b => a == b
  | .bl a, .int b => (if a then 1 else 0) == b
  | .int a, .bl b => a == (if b then 1 else 0)
  | .int a, .int b => a == b
  | .str a, .str b => a == b
  | _, _ => false
def inD (x : Dt) (xs : List Dt) : Bool := xs.any fun y => eqF y x
def items : Dt → Option (List Dt)
  | .lst ds => some ds | .tup ds => some ds | .rl ds => some ds | _ => none
theorem items_ok {y : Dt} {ds : List Dt} (e : items y = some ds) {H : Hp} {v : V} (d : Dat K H v y) : ∃ p vs, v = .ref p ∧ (SqL K H p vs ∨ SqT K H p vs) ∧ Dats K H vs ds := by
  unfold items at e
  split at e <;> (first | cases e | skip)
  · cases d with | lst h t => exact ⟨_, _, rfl, .inl (.of h), t⟩
  · cases d with | tup h t => exact ⟨_, _, rfl, .inr h, t⟩
  · cases d with | rl h t => exact ⟨_, _, rfl, .inl h, t⟩
theorem flat_ok {x : Dt} (f : flatD x = true) {H : Hp} {v : V} (d : Dat K H v x) : flatV v = true := by
  cases d <;> first | rfl | cases f
theorem flats_ok {H : Hp} : ∀ {ds : List Dt} {vs : List V}, ds.all flatD = true → Dats K H vs ds → vs.all flatV = true
  | _, _, _, .nil => rfl
  | _, _, f, .cons h t => by
    simp only [List.all_cons, Bool.and_eq_true] at f ⊢
    exact ⟨flat_ok f.1 h, flats_ok f.2 t⟩
theorem eqF_ok {x y : Dt} (f : flatD x = true) (g : flatD y = true) {H : Hp} {v u : V} (d1 : Dat K H v x) (d2 : Dat K H u y) : eqV v u = eqF x y := by
  cases d1 <;> first | (cases f; done) | (cases d2 <;> first | rfl | (cases g; done))
theorem inD_ok {x : Dt} (f : flatD x = true) {H : Hp} {v : V} (d : Dat K H v x) : ∀ {ds : List Dt} {vs : List V}, ds.all flatD = true → Dats K H vs ds → inV v vs = inD x ds
  | _, _, _, .nil => rfl
  | _, _, g, .cons h t => by
    simp only [List.all_cons, Bool.and_eq_true] at g
    have ih := inD_ok f d g.2 t
    unfold inV inD at *
    rw [List.any_cons, List.any_cons, ih, eqF_ok g.1 f h d]
def inS (x y : Dt) : Option Bool := (items y).bind fun ds => if flatD x = true ∧ ds.all flatD = true then some (inD x ds) else none
def sIn (x y : Dt) : Option Dt := (inS x y).map .bl
def sNin (x y : Dt) : Option Dt := (inS x y).map fun b => .bl (!b)
theorem inS_ok {x y : Dt} {b : Bool} (e : inS x y = some b) {H : Hp} {v u : V} (d1 : Dat K H v x) (d2 : Dat K H u y) : ∃ p xs, u = .ref p ∧ (SqL K H p xs ∨ SqT K H p xs) ∧ flatV v = true ∧ xs.all flatV = true ∧ inV v xs = b := by
  unfold inS at e
  obtain ⟨ds, hd, e⟩ := bindS e
  split at e
  · rename_i h
    cases e
    obtain ⟨p, vs, h1, h2, h3⟩ := items_ok hd d2
    exact ⟨p, vs, h1, h2, flat_ok h.1 d1, flats_ok h.2 h3, inD_ok h.1 d1 h.2 h3⟩
  · cases e
theorem so_in : SO K (rIn K false) sIn := fun x y d v u Z H Q e s d1 d2 q => by
  obtain ⟨b, hb, e⟩ := mapS e
  subst e
  obtain ⟨p, xs, h1, h2, h3, h4, h5⟩ := inS_ok hb (d1.mono s) (d2.mono s)
  exact ⟨p, xs, h1, h2, h3, h4, by rw [h5]; exact q _ H Z (Gr.refl s) .bl⟩
theorem so_nin : SO K (rIn K true) sNin := fun x y d v u Z H Q e s d1 d2 q => by
  obtain ⟨b, hb, e⟩ := mapS e
  subst e
  obtain ⟨p, xs, h1, h2, h3, h4, h5⟩ := inS_ok hb (d1.mono s) (d2.mono s)
  exact ⟨p, xs, h1, h2, h3, h4, by rw [h5]; exact q _ H Z (Gr.refl s) .bl⟩
/-! ### items, slices, + and * of lists -/
def ixD (x y : Dt) : Option Dt := match y with | .int i => (items x).bind fun ds => atI ds i | _ => none
theorem atI_ok {H : Hp} {ds : List Dt} {vs : List V} {i : Int} {d : Dt} (t : Dats K H vs ds) (e : atI ds i = some d) : ∃ v, atI vs i = some v ∧ Dat K H v d := by
  unfold atI at *
  rw [t.length]
  obtain ⟨j, hj, e⟩ := bindS e
  rw [hj]
  exact t.get e
theorem so_ix : SO K (rIx K) ixD := fun x y d v u Z H Q e s d1 d2 q => by
  unfold ixD at e
  split at e
  · obtain ⟨ds, hd, e⟩ := bindS e
    cases d2
    unfold items at hd
    split at hd <;> (first | cases hd | skip)
    · cases d1 with
      | lst h t =>
        obtain ⟨w, hw, dw⟩ := atI_ok t e
        exact .inl ⟨_, _, _, w, rfl, rfl, .of (s _ _ h), hw, q w H Z (Gr.refl s) dw⟩
    · cases d1 with
      | tup h t =>
        obtain ⟨w, hw, dw⟩ := atI_ok t e
        exact .inr (.inl ⟨_, _, _, w, rfl, rfl, Same.sqt s h, hw, q w H Z (Gr.refl s) dw⟩)
    · cases d1 with
      | rl h t =>
        obtain ⟨w, hw, dw⟩ := atI_ok t e
        exact .inl ⟨_, _, _, w, rfl, rfl, s.seq h, hw, q w H Z (Gr.refl s) dw⟩
  · cases e
def cutD (xs : List Dt) (lo hi : Option Int) : List Dt := (xs.drop (HT.sIx xs.length 0 lo)).take (HT.sIx xs.length xs.length hi - HT.sIx xs.length 0 lo)
theorem cut_ok {H : Hp} {ds : List Dt} {vs : List V} {lo hi : Option Int} (t : Dats K H vs ds) : Dats K H (cutV vs lo hi) (cutD ds lo hi) := by
  unfold cutV cutD
  rw [t.length]
  exact (t.drop _).take _
theorem new_lst {Z H : Hp} {p : Addr} {vs : List V} {ds : List Dt} (s : Same Z H) (t : Dats K Z vs ds) (np : H p = none) : Gr Z H (upd Z p (.lst vs)) (upd H p (.lst vs)) ∧ Dat K (upd Z p (.lst vs)) (.ref p) (.lst ds) :=
  ⟨Gr.new s np _, .lst upd_same (t.mono (Gr.new s np (.lst vs)).z)⟩
theorem new_tup {Z H : Hp} {p : Addr} {vs : List V} {ds : List Dt} (s : Same Z H) (t : Dats K Z vs ds) (np : H p = none) : Gr Z H (upd Z p (.tup vs)) (upd H p (.tup vs)) ∧ Dat K (upd Z p (.tup vs)) (.ref p) (.tup ds) :=
  ⟨Gr.new s np _, .tup (.of upd_same) (t.mono (Gr.new s np (.tup vs)).z)⟩
/-- + of ints or of lists -/
def rAddA (X : Cx) : R2 := fun x y H Q => rI0 (fun i j => .int (i + j)) x y H Q ∨ rCat x y H Q ∨ rCatT X.K x y H Q
theorem op_addA : OpR X (binaryOp .Add) (rAddA X) := op_add.or (op_cat.or op_catT)
def sAddA : Dt → Dt → Option Dt
  | .int i, .int j => some (.int (i + j))
  | .lst xs, .lst ys => if xs.length + ys.length ≤ sizeLine then some (.lst (xs ++ ys)) else none
  | _, _ => none
theorem so_addA : SO X.K (rAddA X) sAddA := fun x y d v u Z H Q e s d1 d2 q => by
  unfold sAddA at e
  split at e
  · cases e
    cases d1
    cases d2
    exact .inl ⟨_, _, rfl, rfl, q _ H Z (Gr.refl s) .int⟩
  · split at e
    · rename_i hl
      cases e
      cases d1 with
      | lst h t =>
        cases d2 with
        | lst h2 t2 =>
          exact .inr (.inl ⟨_, _, _, _, rfl, rfl, s _ _ h, s _ _ h2, by rw [t.length, t2.length]; exact hl, fun p np => q _ _ _ (new_lst s (t.append t2) np).1 (new_lst s (t.append t2) np).2⟩)
    · cases e
  · cases e
def rMulA : R2 := fun x y H Q => rI CMul (fun i j => .int (i * j)) x y H Q ∨ rRep x y H Q
theorem op_mulA : OpR X (binaryOp .Mult) rMulA := op_mul.or op_rep
def sMulA : Dt → Dt → Option Dt
  | .int i, .int j => if cMul i j = true then some (.int (i * j)) else none
  | .lst xs, .int k => if -(2 ^ 63) ≤ k ∧ k < 2 ^ 63 ∧ xs.length * k.toNat ≤ sizeLine then some (.lst (List.replicate k.toNat xs).flatten) else none
  | _, _ => none
theorem so_mulA : SO K rMulA sMulA := fun x y d v u Z H Q e s d1 d2 q => by
  unfold sMulA at e
  split at e
  · rename_i i j
    exact .inl (so_mul (.int i) (.int j) d v u Z H Q e s d1 d2 q)
  · split at e
    · rename_i hl
      cases e
      cases d2
      cases d1 with
      | lst h t => exact .inr ⟨_, _, _, rfl, rfl, s _ _ h, hl.1, hl.2.1, by rw [t.length]; exact hl.2.2, fun p np => q _ _ _ (new_lst s (t.rep _) np).1 (new_lst s (t.rep _) np).2⟩
    · cases e
  · cases e
variable {a b c e : Expr} {f g h : En → Option Dt} {pos p2 : Pos}
theorem q_ix (ha : QP X a f) (hb : QP X b g) (hs : PlainIx b := by exact fun _ _ => rfl) : QP X (.Subscript a b pos) (pO ixD f g) :=
  (pe_ix ix_seq ha hb hs).weak fun σ H Q h => two h fun x y d v u Z H2 e s d1 d2 k => so_ix x y d v u Z H2 Q e s d1 d2 k
/-- slices -/
def oP : Option (En → Option Dt) → En → Option (Option Int)
  | none => fun _ => some none
  | some f => fun ρ => (f ρ).bind fun x => match x with | .int i => some (some i) | _ => none
def pSl (f : En → Option Dt) (lo hi : Option (En → Option Dt)) : En → Option Dt := fun ρ => (f ρ).bind fun x => (oP lo ρ).bind fun l => (oP hi ρ).bind fun u => match x with
  | .lst ds => some (.lst (cutD ds l u))
  | .rl ds => some (.lst (cutD ds l u))
  | _ => none
def tOp1 (K : PySem.W.Frag) (f : En → Option (Option Int)) : TO := fun σ H Q => ∃ Z ρ d, Rv K Z H σ ρ ∧ f ρ = some d ∧ ∀ H' Z', Gr Z H Z' H' → Q d H'
abbrev QOp (X : Cx) (e : Option Expr) (f : En → Option (Option Int)) : Prop := PO X e (tOp1 X.K f)
theorem _root_.L2.PO.weak {X : Cx} {e : Option Expr} {t u : TO} (h : PO X e t) (k : ∀ σ H Q, u σ H Q → t σ H Q) : PO X e u := ⟨fun pins s σ H Q I q => h.run pins s σ H Q I (k σ H Q q)⟩
theorem o_none : QOp X none (oP none) := po_none.weak fun σ H Q ⟨Z, ρ, d, r, hf, k⟩ => by
  cases hf
  exact k H Z (Gr.refl r.s)
theorem o_some (ha : QP X a f) : QOp X (some a) (oP (some f)) := (po_some ha).weak fun σ H Q ⟨Z, ρ, d, r, hf, k⟩ => by
  obtain ⟨x, hx, hf⟩ := bindS hf
  refine ⟨Z, ρ, x, r, hx, fun v H' Z' s dv => ?_⟩
  cases x <;> first | (cases hf; done) | skip
  cases hf
  cases dv
  exact ⟨_, rfl, k H' Z' s⟩
theorem q_sl {lo hi : Option Expr} {fl fh : Option (En → Option Dt)} (ha : QP X a f) (hl : QOp X lo (oP fl)) (hh : QOp X hi (oP fh)) : QP X (.Subscript a (.Slice lo hi none p2) pos) (pSl f fl fh) :=
  (pe_slice sl_list ha hl hh).weak fun σ H Q ⟨Z, ρ, d, r, hf, k⟩ => by
    obtain ⟨x, hx, hf⟩ := bindS hf
    obtain ⟨l, hl, hf⟩ := bindS hf
    obtain ⟨u, hu, hf⟩ := bindS hf
    refine ⟨Z, ρ, x, r, hx, fun v H1 Z1 g1 d1 => ⟨Z1, ρ, l, r.gr g1, hl, fun H2 Z2 g2 => ⟨Z2, ρ, u, (r.gr g1).gr g2, hu, fun H3 Z3 g3 => ?_⟩⟩⟩
    have g := (g1.trans g2).trans g3
    have d3 := (d1.mono g2.z).mono g3.z
    cases d3 with
    | lst h t =>
      cases hf
      have w := fun p np => new_lst (K := X.K) (p := p) g3.s (cut_ok (lo := l) (hi := u) t) np
      exact ⟨_, _, rfl, .of (g3.s _ _ h), fun p np => k _ _ _ (g.trans (w p np).1) (w p np).2⟩
    | rl h t =>
      cases hf
      have w := fun p np => new_lst (K := X.K) (p := p) g3.s (cut_ok (lo := l) (hi := u) t) np
      exact ⟨_, _, rfl, g3.s.seq h, fun p np => k _ _ _ (g.trans (w p np).1) (w p np).2⟩
    | _ => cases hf
/-- displays -/
def pLst (f : En → Option (List Dt)) : En → Option Dt := fun ρ => (f ρ).bind fun ds => if ds.length ≤ sizeLine then some (.lst ds) else none
def pTup (f : En → Option (List Dt)) : En → Option Dt := fun ρ => (f ρ).bind fun ds => if ds.length ≤ sizeLine then some (.tup ds) else none
theorem q_lst {es : List Expr} {f : En → Option (List Dt)} (ha : QPs X es f) : QP X (.List es pos) (pLst f) := (pe_lst ha).weak fun σ H Q ⟨Z, ρ, d, r, hf, k⟩ => by
  obtain ⟨ds, hd, hf⟩ := bindS hf
  split at hf
  · rename_i hl
    cases hf
    exact ⟨Z, ρ, ds, r, hd, fun vs H' Z' g t => ⟨by rw [t.length]; exact hl, fun p np => k _ _ _ (g.trans (new_lst g.s t np).1) (new_lst g.s t np).2⟩⟩
  · cases hf
theorem q_tup {es : List Expr} {x1} {f : En → Option (List Dt)} (ha : QPs X es f) : QP X (.Tuple es x1 pos) (pTup f) := (pe_tup ha).weak fun σ H Q ⟨Z, ρ, d, r, hf, k⟩ => by
  obtain ⟨ds, hd, hf⟩ := bindS hf
  split at hf
  · rename_i hl
    cases hf
    exact ⟨Z, ρ, ds, r, hd, fun vs H' Z' g t => ⟨by rw [t.length]; exact hl, fun p np => k _ _ _ (g.trans (new_tup g.s t np).1) (new_tup g.s t np).2⟩⟩
  · cases hf
/-! ### built-ins -/
def nLen : List Dt → Option Dt
  | [x] => (items x).map fun ds => .int ds.length
  | _ => none
theorem sn_len : SN K (fun xs H Q => ∃ x n, xs = [x] ∧ LenV K x H n ∧ Q (.int n) H) nLen := fun ds d vs Z H Q e s dv q => by
  unfold nLen at e
  split at e
  · obtain ⟨xs, hx, e⟩ := mapS e
    subst e
    cases dv with
    | cons d1 t =>
      cases t
      obtain ⟨p, ws, rfl, h, hd⟩ := items_ok hx (d1.mono s)
      refine ⟨_, xs.length, rfl, ?_, q _ H Z (Gr.refl s) .int⟩
      rcases h with h | h
      · exact .inl ⟨ws, h, hd.length.symm⟩
      · exact .inr ⟨ws, h, hd.length.symm⟩
  · cases e
def n1I (k : Int → Dt) : List Dt → Option Dt
  | [.int i] => some (k i)
  | _ => none
def nAbs := n1I fun i => .int (if i < 0 then -i else i)
theorem sn_abs : SN K (fun xs H Q => ∃ i, xs = [.int i] ∧ Q (.int (if i < 0 then -i else i)) H) nAbs := fun ds d vs Z H Q e s dv q => by
  unfold nAbs n1I at e
  split at e
  · cases e
    cases dv with
    | cons d1 t =>
      cases t
      cases d1
      exact ⟨_, rfl, q _ H Z (Gr.refl s) .int⟩
  · cases e
def nInt : List Dt → Option Dt
  | [.int i] => some (.int i)
  | [.bl k] => some (.int (if k then 1 else 0))
  | _ => none
theorem sn_int : SN K (fun xs H Q => (∃ i, xs = [.int i] ∧ Q (.int i) H) ∨ ∃ k, xs = [.bl k] ∧ Q (.int (if k then 1 else 0)) H) nInt := fun ds d vs Z H Q e s dv q => by
  unfold nInt at e
  split at e <;> (first | cases e | skip)
  all_goals
    cases dv with
    | cons d1 t =>
      cases t
      cases d1
      first
        | exact .inl ⟨_, rfl, q _ H Z (Gr.refl s) .int⟩
        | exact .inr ⟨_, rfl, q _ H Z (Gr.refl s) .int⟩
def n2I (k : Int → Int → Dt) : List Dt → Option Dt
  | [.int i, .int j] => some (k i j)
  | _ => none
def nMax2 := n2I fun i j => .int (if j > i then j else i)
def nMin2 := n2I fun i j => .int (if j < i then j else i)
theorem sn_2I {k : Int → Int → Dt} {g : Int → Int → V} (h : ∀ i j H, Dat K H (g i j) (k i j)) : SN K (fun xs H Q => ∃ i j, xs = [.int i, .int j] ∧ Q (g i j) H) (n2I k) := fun ds d vs Z H Q e s dv q => by
  unfold n2I at e
  split at e
  · cases e
    cases dv with
    | cons d1 t =>
      cases t with
      | cons d2 t =>
        cases t
        cases d1
        cases d2
        exact ⟨_, _, rfl, q _ H Z (Gr.refl s) (h _ _ Z)⟩
  · cases e
theorem sn_max2 : SN K (fun xs H Q => ∃ i j, xs = [.int i, .int j] ∧ Q (.int (if j > i then j else i)) H) nMax2 := sn_2I fun _ _ _ => .int
theorem sn_min2 : SN K (fun xs H Q => ∃ i j, xs = [.int i, .int j] ∧ Q (.int (if j < i then j else i)) H) nMin2 := sn_2I fun _ _ _ => .int
/-- ints alone -/
def intsOf : List Dt → Option (List Int)
  | [] => some []
  | .int i :: ds => (intsOf ds).map (i :: ·)
  | _ :: _ => none
theorem intsOf_map : ∀ xs : List Int, intsOf (xs.map .int) = some xs
  | [] => rfl
  | x :: xs => by
    rw [List.map_cons, intsOf, intsOf_map xs]
    rfl
theorem intsOf_ok {H : Hp} : ∀ {ds : List Dt} {vs : List V} {ns : List Int}, intsOf ds = some ns → Dats K H vs ds → vs = ns.map V.int ∧ ds = ns.map .int
  | _, _, _, e, .nil => by
    cases e
    exact ⟨rfl, rfl⟩
  | d :: ds, _, _, e, .cons h t => by
    cases h
    case int =>
      simp only [intsOf, Option.map_eq_some_iff] at e
      obtain ⟨ns, e1, e2⟩ := e
      subst e2
      obtain ⟨e3, e4⟩ := intsOf_ok e1 t
      exact ⟨by rw [e3]; rfl, by rw [e4]; rfl⟩
    all_goals (simp [intsOf] at e)
def lstOf : Dt → Option (List Dt)
  | .lst ds => some ds | .rl ds => some ds | _ => none
theorem lstOf_ok {y : Dt} {ds : List Dt} (e : lstOf y = some ds) {H : Hp} {v : V} (d : Dat K H v y) : ∃ p vs, v = .ref p ∧ SqL K H p vs ∧ Dats K H vs ds := by
  unfold lstOf at e
  split at e <;> (first | cases e | skip)
  · cases d with | lst h t => exact ⟨_, _, rfl, .of h, t⟩
  · cases d with | rl h t => exact ⟨_, _, rfl, h, t⟩
def n1L (k : List Int → Option Dt) : List Dt → Option Dt
  | [x] => (lstOf x).bind fun ds => (intsOf ds).bind k
  | _ => none
theorem n1L_ok {k : List Int → Option Dt} {ds : List Dt} {d : Dt} (e : n1L k ds = some d) {H : Hp} {vs : List V} (dv : Dats K H vs ds) : ∃ (a : Addr) (ns : List Int), vs = [V.ref a] ∧ SqL K H a (ns.map V.int) ∧ k ns = some d := by
  unfold n1L at e
  split at e
  · obtain ⟨xs, h1, e⟩ := bindS e
    obtain ⟨ns, h2, e⟩ := bindS e
    cases dv with
    | cons d1 t =>
      cases t
      obtain ⟨p, ws, rfl, h3, h4⟩ := lstOf_ok h1 d1
      obtain ⟨rfl, _⟩ := intsOf_ok h2 h4
      exact ⟨p, ns, rfl, h3, e⟩
  · cases e
def nSum := n1L fun ns => some (.int ns.sum)
theorem sn_sum : SN K (rSum K) nSum := fun ds d vs Z H Q e s dv q => by
  obtain ⟨a, ns, h1, h2, e⟩ := n1L_ok e (dv.mono s)
  cases e
  exact ⟨a, ns, h1, h2, q _ H Z (Gr.refl s) .int⟩
def minL : List Int → Option Int
  | [] => none
  | x :: xs => some (xs.foldl min x)
def maxL : List Int → Option Int
  | [] => none
  | x :: xs => some (xs.foldl max x)
theorem foldl_min (x : Int) : ∀ xs : List Int, (xs.foldl min x ∈ x :: xs) ∧ ∀ y ∈ x :: xs, xs.foldl min x ≤ y := by
  intro xs
  induction xs generalizing x with
  | nil => simp
  | cons z xs ih =>
    obtain ⟨h1, h2⟩ := ih (min x z)
    refine ⟨?_, fun y hy => ?_⟩
    · rw [List.foldl_cons]
      rcases List.mem_cons.mp h1 with e | e
      · rw [e]
        rcases Int.le_total x z with h | h
        · rw [Int.min_eq_left h]; simp
        · rw [Int.min_eq_right h]; simp
      · simp [e]
    · rw [List.foldl_cons]
      have h3 := h2 (min x z) (by simp)
      rcases List.mem_cons.mp hy with e | e
      · subst e; omega
      · rcases List.mem_cons.mp e with e | e
        · subst e; omega
        · exact h2 y (by simp [e])
theorem foldl_max (x : Int) : ∀ xs : List Int, (xs.foldl max x ∈ x :: xs) ∧ ∀ y ∈ x :: xs, y ≤ xs.foldl max x := by
  intro xs
  induction xs generalizing x with
  | nil => simp
  | cons z xs ih =>
    obtain ⟨h1, h2⟩ := ih (max x z)
    refine ⟨?_, fun y hy => ?_⟩
    · rw [List.foldl_cons]
      rcases List.mem_cons.mp h1 with e | e
      · rw [e]
        rcases Int.le_total x z with h | h
        · rw [Int.max_eq_right h]; simp
        · rw [Int.max_eq_left h]; simp
      · simp [e]
    · rw [List.foldl_cons]
      have h3 := h2 (max x z) (by simp)
      rcases List.mem_cons.mp hy with e | e
      · subst e; omega
      · rcases List.mem_cons.mp e with e | e
        · subst e; omega
        · exact h2 y (by simp [e])
theorem minL_of {ns : List Int} {m : Int} (h1 : m ∈ ns) (h2 : ∀ y ∈ ns, m ≤ y) : minL ns = some m := by
  cases ns with
  | nil => cases h1
  | cons x xs =>
    obtain ⟨h3, h4⟩ := foldl_min x xs
    exact congrArg some (Int.le_antisymm (h4 m h1) (h2 _ h3))
theorem maxL_of {ns : List Int} {m : Int} (h1 : m ∈ ns) (h2 : ∀ y ∈ ns, y ≤ m) : maxL ns = some m := by
  cases ns with
  | nil => cases h1
  | cons x xs =>
    obtain ⟨h3, h4⟩ := foldl_max x xs
    exact congrArg some (Int.le_antisymm (h2 _ h3) (h4 m h1))
def nMin := n1L fun ns => (minL ns).map .int
def nMax := n1L fun ns => (maxL ns).map .int
theorem sn_min : SN K (rMin K) nMin := fun ds d vs Z H Q e s dv q => by
  obtain ⟨a, ns, h1, h2, e⟩ := n1L_ok e (dv.mono s)
  obtain ⟨m, hm, e⟩ := mapS e
  subst e
  refine ⟨a, ns, h1, h2, ?_, fun m' h3 h4 => ?_⟩
  · cases ns with
    | nil => cases hm
    | cons _ _ => simp
  · rw [minL_of h3 h4] at hm
    cases hm
    exact q _ H Z (Gr.refl s) .int
theorem sn_max : SN K (rMax K) nMax := fun ds d vs Z H Q e s dv q => by
  obtain ⟨a, ns, h1, h2, e⟩ := n1L_ok e (dv.mono s)
  obtain ⟨m, hm, e⟩ := mapS e
  subst e
  refine ⟨a, ns, h1, h2, ?_, fun m' h3 h4 => ?_⟩
  · cases ns with
    | nil => cases hm
    | cons _ _ => simp
  · rw [maxL_of h3 h4] at hm
    cases hm
    exact q _ H Z (Gr.refl s) .int
/-- bools alone -/
def blsOf : List Dt → Option (List Bool)
  | [] => some []
  | .bl i :: ds => (blsOf ds).map (i :: ·)
  | _ :: _ => none
theorem blsOf_map : ∀ xs : List Bool, blsOf (xs.map .bl) = some xs
  | [] => rfl
  | x :: xs => by
    rw [List.map_cons, blsOf, blsOf_map xs]
    rfl
theorem blsOf_ok {H : Hp} : ∀ {ds : List Dt} {vs : List V} {ns : List Bool}, blsOf ds = some ns → Dats K H vs ds → vs = ns.map V.bl
  | _, _, _, e, .nil => by
    cases e
    rfl
  | d :: ds, _, _, e, .cons h t => by
    cases h
    case bl =>
      simp only [blsOf, Option.map_eq_some_iff] at e
      obtain ⟨ns, e1, e2⟩ := e
      subst e2
      rw [blsOf_ok e1 t]
      rfl
    all_goals (simp [blsOf] at e)
def n1B (k : List Bool → Bool) : List Dt → Option Dt
  | [x] => (lstOf x).bind fun ds => (blsOf ds).map fun bs => .bl (k bs)
  | _ => none
theorem sn_1B {k : List Bool → Bool} : SN K (fun vs H Q => ∃ (a : Addr) (bs : List Bool), vs = [V.ref a] ∧ SqL K H a (bs.map V.bl) ∧ Q (.bl (k bs)) H) (n1B k) := fun ds d vs Z H Q e s dv q => by
  unfold n1B at e
  split at e
  · obtain ⟨xs, h1, e⟩ := bindS e
    obtain ⟨bs, h2, e⟩ := mapS e
    subst e
    cases dv with
    | cons d1 t =>
      cases t
      obtain ⟨p, ws, rfl, h3, h4⟩ := lstOf_ok h1 (d1.mono s)
      rw [blsOf_ok h2 h4] at h3
      exact ⟨p, bs, rfl, h3, q _ H Z (Gr.refl s) .bl⟩
  · cases e
def nAny := n1B fun bs => bs.any id
def nAll := n1B fun bs => bs.all id
theorem sn_any : SN K (rAny K) nAny := sn_1B
theorem sn_all : SN K (rAll K) nAll := sn_1B
/-- list(x) -/
def nList : List Dt → Option Dt
  | [x] => (items x).map .lst
  | _ => none
theorem sn_list : SN K (fun xs H Q => ∃ p ys, xs = [.ref p] ∧ (SqL K H p ys ∨ SqT K H p ys) ∧ ∀ l, H l = none → Q (.ref l) (upd H l (.lst ys))) nList := fun ds d vs Z H Q e s dv q => by
  unfold nList at e
  split at e
  · obtain ⟨xs, hx, e⟩ := mapS e
    subst e
    cases dv with
    | cons d1 t =>
      cases t
      obtain ⟨p, ws, rfl, h, hd⟩ := items_ok hx d1
      exact ⟨p, ws, rfl, h.elim (fun h => .inl (s.seq h)) fun h => .inr (Same.sqt s h), fun l nl => q _ _ _ (new_lst s hd nl).1 (new_lst s hd nl).2⟩
  · cases e
/-- sorted of ints -/
def nSorted := n1L fun ns => if ns.length < 64 then some (.lst ((ns.mergeSort (· ≤ ·)).map .int)) else none
theorem sorted_unique : ∀ {xs ys : List Int}, xs.Perm ys → xs.Pairwise (· ≤ ·) → ys.Pairwise (· ≤ ·) → xs = ys := fun p h1 h2 => p.eq_of_pairwise (fun a b _ _ h h' => Int.le_antisymm h h') h1 h2
theorem dats_ints {H : Hp} : ∀ ns : List Int, Dats K H (ns.map V.int) (ns.map .int)
  | [] => .nil
  | n :: ns => .cons .int (dats_ints ns)
theorem sn_sorted : SN K (rSorted K) nSorted := fun ds d vs Z H Q e s dv q => by
  obtain ⟨a, ns, h1, h2, e⟩ := n1L_ok e (dv.mono s)
  split at e
  · rename_i hl
    cases e
    refine ⟨a, ns, h1, h2, hl, fun ns' p hp hs np => ?_⟩
    have e1 : ns' = ns.mergeSort (· ≤ ·) := sorted_unique (hp.trans (List.mergeSort_perm ns _).symm) hs (by
      have := List.pairwise_mergeSort (le := fun a b : Int => decide (a ≤ b)) (fun a b c h h' => by simp at *; omega) (fun a b => by simp; omega) ns
      exact this.imp fun h => by simpa using h)
    rw [e1]
    have w := new_lst (K := K) s (dats_ints (ns.mergeSort fun a b => decide (a ≤ b))) np
    exact q _ _ _ w.1 w.2
  · cases e
/-- a field of an instance -/
def pFld (c j : Nat) (f : En → Option Dt) : En → Option Dt := fun ρ => (f ρ).bind fun x => match x with | .ob c' ds => if c' = c then ds[j]? else none | _ => none
theorem lookup_get {α : Type} {n : Str} : ∀ {fs : List (Str × α)} {j : Nat} {v : α}, (fs.map (·.1)).Nodup → (fs.map (·.1))[j]? = some n → (fs.map (·.2))[j]? = some v → fs.lookup n = some v
  | [], _, _, _, h, _ => by simp at h
  | (x, y) :: fs, 0, v, _, h, h2 => by
    simp at h h2
    subst h
    subst h2
    simp [List.lookup_cons]
  | (x, y) :: fs, j + 1, v, nd, h, h2 => by
    simp only [List.map_cons, List.getElem?_cons_succ] at h h2
    simp only [List.map_cons, List.nodup_cons] at nd
    have ne : ¬ n = x := fun e => nd.1 (by rw [← e]; exact List.mem_of_getElem? h)
    rw [List.lookup_cons, beq_eq_false_iff_ne.mpr ne]
    exact lookup_get nd.2 h h2
/-- the class number c is good for reading and writing the field n, its j-th -/
structure FldR (K : PySem.W.Frag) (c j : Nat) (n : Str) : Prop where
  cl : Cls K (CTab.addr c)
  na : NoAttr K (CTab.addr c) n
  ix : (CTab.names c)[j]? = some n
  nd : (CTab.names c).Nodup
  few : (CTab.names c).length < 1000
theorem names_at {K : PySem.W.Frag} {c j m : Nat} {n : Str} (R : FldR K c j n) (h : j < m) : ((CTab.names c).take m)[j]? = some n := by
  rw [List.getElem?_take_of_lt h]
  exact R.ix
theorem q_fld {c j : Nat} {n : Str} (R : FldR X.K c j n) (ha : QP X e f) (hb : attributeBase e n X.env (eval e X.env) = eval e X.env := by rfl) : QP X (.Attribute e n pos) (pFld c j f) :=
  (pe_fld ha hb).weak fun σ H Q ⟨Z, ρ, d, r, hf, k⟩ => by
    obtain ⟨x, hx, hf⟩ := bindS hf
    refine ⟨Z, ρ, x, r, hx, fun v H' Z' s dv => ?_⟩
    cases dv with
    | @ob a dx c' fs ds h k1 t =>
      have hf' : (if c' = c then ds[j]? else none) = some d := hf
      by_cases hC : c' = c
      · rw [if_pos hC] at hf'
        subst hC
        obtain ⟨w, hw, dw⟩ := t.get hf'
        have hj : j < ds.length := (List.getElem?_eq_some_iff.mp hf').1
        exact ⟨_, _, _, _, w, rfl, s.s _ _ h, R.cl, R.na, lookup_get (by rw [k1]; exact R.nd.sublist (List.take_sublist _ _)) (by rw [k1]; exact names_at R hj) hw, k w H' Z' s dw⟩
      · rw [if_neg hC] at hf'
        cases hf'
    | _ => cases hf
end Qs
namespace Qs
open PySem PySem.Spec PyProof.Rows L2
variable [CTab]
variable {X : Cx} {K : PySem.W.Frag}
/-! ### what is walked: data -/
/-- J walks ds, whose things stand in G -/
structure Wk (K : PySem.W.Frag) (J : It) (G : Hp) (ds : List Dt) : Prop where
  go : ∀ (i : Nat) (H : Hp), Same G H → i < ds.length → J.go i H ∧ ∀ x H', J.yld i H x H' → Same H H' ∧ ∃ d U, ds[i]? = some d ∧ Same G U ∧ Same U H' ∧ (∀ a o, U a = some o → G a = some o ∨ H a = none) ∧ Dat K U x d
  stop : ∀ (i : Nat) (H : Hp), Same G H → ds.length ≤ i → J.stop i H
def tI (K : PySem.W.Frag) (f : En → Option (List Dt)) : TI := fun σ H R => ∃ Z ρ ds, Rv K Z H σ ρ ∧ f ρ = some ds ∧ ∀ J H' Z', Gr Z H Z' H' → Wk K J Z' ds → R J H'
abbrev QI (X : Cx) (tg iter : Expr) (f : En → Option (List Dt)) : Prop := PI X tg iter (tI X.K f)
theorem _root_.L2.PI.weak {X : Cx} {tg it : Expr} {t u : TI} (h : PI X tg it t) (k : ∀ σ H Q, u σ H Q → t σ H Q) : PI X tg it u := ⟨fun pins s σ H Q I q => h.run pins s σ H Q I (k σ H Q q)⟩
theorem wk_list' {a : Addr} {G : Hp} {vs : List V} {ds : List Dt} (h : SqL K G a vs) (t : Dats K G vs ds) : Wk K (Itl K a) G ds where
  go := fun i H s hi => by
    obtain ⟨v, hv, dv⟩ := t.get (List.getElem?_eq_getElem hi)
    refine ⟨⟨vs, v, s.seq h, hv⟩, fun x H' y => ?_⟩
    obtain ⟨e, y⟩ := y
    subst e
    have := y vs (s.seq h)
    rw [hv] at this
    cases this
    exact ⟨Same.refl _, _, G, List.getElem?_eq_getElem hi, Same.refl _, s, fun _ _ h => .inl h, dv⟩
  stop := fun i H s hi => ⟨vs, s.seq h, by rw [t.length]; exact hi⟩
theorem wk_tup {a : Addr} {G : Hp} {vs : List V} {ds : List Dt} (h : SqT K G a vs) (t : Dats K G vs ds) : Wk K (Itt K a) G ds where
  go := fun i H s hi => by
    obtain ⟨v, hv, dv⟩ := t.get (List.getElem?_eq_getElem hi)
    refine ⟨⟨vs, v, Same.sqt s h, hv⟩, fun x H' y => ?_⟩
    obtain ⟨e, y⟩ := y
    subst e
    have := y vs (Same.sqt s h)
    rw [hv] at this
    cases this
    exact ⟨Same.refl _, _, G, List.getElem?_eq_getElem hi, Same.refl _, s, fun _ _ h => .inl h, dv⟩
  stop := fun i H s hi => ⟨vs, Same.sqt s h, by rw [t.length]; exact hi⟩
def rgD (lo c : Int) (n : Nat) : List Dt := (List.range n).map fun (i : Nat) => .int (lo + (i : Int) * c)
theorem wk_int {J : It} {G : Hp} {lo c : Int} {n : Nat} (hg : ∀ i H, i < n → J.go i H) (hy : ∀ i H x H', J.yld i H x H' → H' = H ∧ x = .int (lo + (i : Nat) * c)) (hs : ∀ i H, n ≤ i → J.stop i H) : Wk K J G (rgD lo c n) where
  go := fun i H s hi => by
    have hi' : i < n := by simpa [rgD] using hi
    refine ⟨hg i H hi', fun x H' y => ?_⟩
    obtain ⟨e, e2⟩ := hy i H x H' y
    subst e
    subst e2
    exact ⟨Same.refl _, .int (lo + (i : Nat) * c), G, by simp [rgD, hi'], Same.refl _, s, fun _ _ h => .inl h, .int⟩
  stop := fun i H s hi => hs i H (by simpa [rgD] using hi)
variable {tg a b c e : Expr} {f g h : En → Option Dt} {pos p2 : Pos}
def iL (f : En → Option Dt) : En → Option (List Dt) := fun ρ => (f ρ).bind lstOf
def iT (f : En → Option Dt) : En → Option (List Dt) := fun ρ => (f ρ).bind fun x => match x with | .tup ds => some ds | _ => none
theorem i_list (ha : QP X a f) : QI X tg a (iL f) := (pi_list ha).weak fun σ H R ⟨Z, ρ, ds, r, hf, k⟩ => by
  obtain ⟨x, hx, hf⟩ := bindS hf
  refine ⟨Z, ρ, x, r, hx, fun v H' Z' g dv => ?_⟩
  obtain ⟨p, vs, rfl, h1, h2⟩ := lstOf_ok hf dv
  exact ⟨p, rfl, ⟨vs, g.s.seq h1⟩, k _ H' Z' g (wk_list' h1 h2)⟩
theorem i_tup (ha : QP X a f) : QI X tg a (iT f) := (pi_tup ha).weak fun σ H R ⟨Z, ρ, ds, r, hf, k⟩ => by
  obtain ⟨x, hx, hf⟩ := bindS hf
  refine ⟨Z, ρ, x, r, hx, fun v H' Z' g dv => ?_⟩
  cases dv with
  | tup h t =>
    cases hf
    exact ⟨_, rfl, ⟨_, Same.sqt g.s h⟩, k _ H' Z' g (wk_tup h t)⟩
  | _ => cases hf
abbrev lim62 (i : Int) : Prop := -(2 ^ 62) ≤ i ∧ i < 2 ^ 62
def rg1 : List Dt → Option (List Dt)
  | [.int j] => if lim62 j then some (rgD 0 1 j.toNat) else none
  | _ => none
def rg2 : List Dt → Option (List Dt)
  | [.int i, .int j] => if lim62 i ∧ lim62 j then some (rgD i 1 (j - i).toNat) else none
  | _ => none
def iN (s : List Dt → Option (List Dt)) (f : En → Option (List Dt)) : En → Option (List Dt) := fun ρ => (f ρ).bind s
theorem i_range1 {p : Pos} {f : En → Option (List Dt)} (hm : X.mg "range" = none) (ha : QPs X [a] f) (hg : Gl X "range" := by rfl) (hs : starEach [a] X.env = [(false, eval a X.env)] := by rfl) : QI X tg (.Call (.Name "range" p) [a] [] pos) (iN rg1 f) :=
  (pi_range1 hg hm ha hs).weak fun σ H R ⟨Z, ρ, ds, r, hf, k⟩ => by
    obtain ⟨x, hx, hf⟩ := bindS hf
    refine ⟨Z, ρ, x, r, hx, fun vs H' Z' g dv => ?_⟩
    unfold rg1 at hf
    split at hf
    · split at hf
      · rename_i hl
        cases hf
        cases dv with
        | cons d1 t =>
          cases t
          cases d1
          exact ⟨_, rfl, hl.1, hl.2, k _ H' Z' g (wk_int (fun i H h => h) (fun i H x H' h => ⟨h.1, by rw [h.2]; simp⟩) fun i H h => h)⟩
      · cases hf
    · cases hf
theorem i_range2 {p : Pos} {f : En → Option (List Dt)} (hm : X.mg "range" = none) (ha : QPs X [a, b] f) (hg : Gl X "range" := by rfl) (hs : starEach [a, b] X.env = [(false, eval a X.env), (false, eval b X.env)] := by rfl) (hs2 : starEach [b] X.env = [(false, eval b X.env)] := by rfl) : QI X tg (.Call (.Name "range" p) [a, b] [] pos) (iN rg2 f) :=
  (pi_range2 hg hm ha hs hs2).weak fun σ H R ⟨Z, ρ, ds, r, hf, k⟩ => by
    obtain ⟨x, hx, hf⟩ := bindS hf
    refine ⟨Z, ρ, x, r, hx, fun vs H' Z' g dv => ?_⟩
    unfold rg2 at hf
    split at hf
    · split at hf
      · rename_i hl
        cases hf
        cases dv with
        | cons d1 t =>
          cases t with
          | cons d2 t =>
            cases t
            cases d1
            cases d2
            exact ⟨_, _, rfl, ⟨hl.1.1, hl.1.2, hl.2.1, hl.2.2⟩, k _ H' Z' g (wk_int (fun i H h => h) (fun i H x H' h => ⟨h.1, by rw [h.2, Int.mul_one]⟩) fun i H h => h)⟩
      · cases hf
    · cases hf
/-- range(i, j, c) -/
def rgOk (i j c : Int) : Bool := decide (c ≠ 0) && decide (c.natAbs < 1073741824) && Builtin.Range.small i j c && decide (0 ≤ Builtin.Range.rangeSize i j c)
def rg3 : List Dt → Option (List Dt)
  | [.int i, .int j, .int c] => if rgOk i j c = true then some (rgD i c (Builtin.Range.rangeSize i j c).toNat) else none
  | _ => none
theorem i_range3 {p : Pos} {f : En → Option (List Dt)} (hm : X.mg "range" = none) (ha : QPs X [a, b, c] f) (hg : Gl X "range" := by rfl) (hs : starEach [a, b, c] X.env = (false, eval a X.env) :: starEach [b, c] X.env := by rfl) (hs2 : (backTo pos (starEach [b, c] X.env)).any (·.1) = false := by rfl) :
    QI X tg (.Call (.Name "range" p) [a, b, c] [] pos) (iN rg3 f) :=
  (pi_range3 hg hm ha hs hs2).weak fun σ H R ⟨Z, ρ, ds, r, hf, k⟩ => by
    obtain ⟨x, hx, hf⟩ := bindS hf
    refine ⟨Z, ρ, x, r, hx, fun vs H' Z' g dv => ?_⟩
    unfold rg3 at hf
    split at hf
    · split at hf
      · rename_i hl
        cases hf
        simp only [rgOk, Bool.and_eq_true, decide_eq_true_eq] at hl
        cases dv with
        | cons d1 t =>
          cases t with
          | cons d2 t =>
            cases t with
            | cons d3 t =>
              cases t
              cases d1
              cases d2
              cases d3
              exact ⟨_, _, _, _, rfl, ⟨hl.1.1.1, hl.1.1.2, hl.1.2, (Int.toNat_of_nonneg hl.2).symm⟩, k _ H' Z' g (wk_int (fun i H h => h) (fun i H x H' h => h) fun i H h => h)⟩
      · cases hf
    · cases hf
/-! ### targets -/
/-- a leaf: data that is N's or F's -/
def wipeE (ρ : En) : List Nat → En
  | [] => ρ
  | v :: vs => (wipeE ρ vs).set v none
theorem wipeE_length (ρ : En) : ∀ vs : List Nat, (wipeE ρ vs).length = ρ.length
  | [] => rfl
  | v :: vs => by unfold wipeE; rw [List.length_set, wipeE_length ρ vs]
theorem wipeE_some {ρ : En} {i : Nat} {x : Et} : ∀ {vs : List Nat}, (wipeE ρ vs)[i]? = some (some x) → ρ[i]? = some (some x) ∧ i ∉ vs
  | [], h => ⟨h, by simp⟩
  | v :: vs, h => by
    unfold wipeE at h
    by_cases hi : v = i
    · subst hi
      by_cases hv : v < (wipeE ρ vs).length
      · rw [List.getElem?_set_self hv] at h; cases h
      · rw [List.getElem?_eq_none (by simpa using hv)] at h; cases h
    · rw [List.getElem?_set_ne hi] at h
      obtain ⟨h1, h2⟩ := wipeE_some h
      exact ⟨h1, by simp only [List.mem_cons, not_or]; exact ⟨fun e => hi e.symm, h2⟩⟩
theorem Rv.wipe {Z H : Hp} {σ : L2.St} {ρ : En} (r : Rv K Z H σ ρ) (vs : List Nat) : Rv K Z H (L2.wipe σ vs) (wipeE ρ vs) := ⟨r.s, by rw [L2.wipe_length, wipeE_length, r.l], fun i e h => by
  obtain ⟨h1, h2⟩ := wipeE_some h
  obtain ⟨v, hv, dv⟩ := r.d i e h1
  exact ⟨v, by rw [L2.wipe_out h2]; exact hv, dv⟩⟩
theorem wipe_set {σ : L2.St} {i : Nat} {x : Option V} : ∀ {vs : List Nat}, i ∈ vs → L2.wipe (σ.set i x) vs = L2.wipe σ vs
  | v :: vs, h => by
    unfold L2.wipe
    by_cases hi : i ∈ vs
    · rw [wipe_set hi]
    · have e : i = v := (List.mem_cons.mp h).elim id fun h => absurd h hi
      subst e
      have : ∀ ws : List Nat, i ∉ ws → (L2.wipe (σ.set i x) ws).set i none = (L2.wipe σ ws).set i none := fun ws => by
        induction ws with
        | nil => intro _; simp [L2.wipe]
        | cons w ws ih =>
          intro hw
          simp only [List.mem_cons, not_or] at hw
          unfold L2.wipe
          rw [List.set_comm _ _ (Ne.symm hw.1), ih hw.2, List.set_comm _ _ hw.1]
      exact this vs hi
/-- a pure target: data into slots (those of vs alone) -/
def tG (K : PySem.W.Frag) (vs : List Nat) (b : Dt → En → Option En) : TG := fun v σ H Q => ∃ Z ρ d ρ', Rv K Z H σ ρ ∧ Dat K Z v d ∧ b d ρ = some ρ' ∧ ∀ σ', Rv K Z H σ' ρ' → L2.wipe σ' vs = L2.wipe σ vs → Q σ' H
def tGs (K : PySem.W.Frag) (vs : List Nat) (b : List Dt → En → Option En) : TGs := fun xs σ H Q => ∃ Z ρ ds ρ', Rv K Z H σ ρ ∧ Dats K Z xs ds ∧ b ds ρ = some ρ' ∧ ∀ σ', Rv K Z H σ' ρ' → L2.wipe σ' vs = L2.wipe σ vs → Q σ' H
abbrev QG (X : Cx) (vs : List Nat) (tg : Expr) (b : Dt → En → Option En) : Prop := PG X tg (tG X.K vs b)
abbrev QGs (X : Cx) (vs : List Nat) (tgs : List Expr) (b : List Dt → En → Option En) : Prop := PGs X tgs (tGs X.K vs b)
theorem _root_.L2.PG.weak {X : Cx} {tg : Expr} {t u : TG} (h : PG X tg t) (k : ∀ v σ H Q, u v σ H Q → t v σ H Q) : PG X tg u := ⟨fun pins s σ H v w Q I r q => h.run pins s σ H v w Q I r (k v σ H Q q)⟩
theorem _root_.L2.PGs.weak {X : Cx} {tg : List Expr} {t u : TGs} (h : PGs X tg t) (k : ∀ v σ H Q, u v σ H Q → t v σ H Q) : PGs X tg u := ⟨fun pins s σ H v w Q I r q => h.run pins s σ H v w Q I r (k v σ H Q q)⟩
def gN (i : Nat) : Dt → En → Option En := fun d ρ => if i < ρ.length then some (ρ.set i (some (.o d))) else none
def gT (b : List Dt → En → Option En) : Dt → En → Option En := fun d ρ => match d with | .tup ds => b ds ρ | _ => none
def gsNil : List Dt → En → Option En := fun ds ρ => match ds with | [] => some ρ | _ => none
def gsCons (b : Dt → En → Option En) (bs : List Dt → En → Option En) : List Dt → En → Option En := fun ds ρ => match ds with | d :: ds => (b d ρ).bind (bs ds) | _ => none
theorem Rv.set {Z H : Hp} {σ : L2.St} {ρ : En} {i : Nat} {v : V} {e : Et} (r : Rv K Z H σ ρ) (dv : Dat K Z v (toD e)) (hs : i < σ.length) : Rv K Z H (σ.set i (some v)) (ρ.set i (some e)) := ⟨r.s, by simpa using r.l, fun j e' h => by
  by_cases hj : i = j
  · subst hj
    by_cases hi : i < ρ.length
    · rw [List.getElem?_set_self hi] at h
      cases h
      exact ⟨v, by rw [List.getElem?_set_self hs], dv⟩
    · rw [List.getElem?_eq_none (by simpa using hi)] at h
      cases h
  · rw [List.getElem?_set_ne hj] at h ⊢
    exact r.d j e' h⟩
end Qs
namespace Qs
open PySem PySem.Spec PyProof.Rows L2
variable [CTab]
variable {X : Cx} {K : PySem.W.Frag} {tg a b c e : Expr} {f g h : En → Option Dt} {pos p2 : Pos}
/-! ### new lists of data -/
def tF (K : PySem.W.Frag) (f : En → Option (List Dt)) : TE := fun σ H Q => ∃ Z ρ ds, Rv K Z H σ ρ ∧ f ρ = some ds ∧ ∀ p vs H' Z', Gr Z H Z' H' → H' p = some (.lst vs) → H p = none → Z' p = none → Dats K Z' vs ds → Q (.ref p) H'
abbrev QF (X : Cx) (e : Expr) (f : En → Option (List Dt)) : Prop := PE X e (tF X.K f)
def pF (f : En → Option (List Dt)) : En → Option Dt := fun ρ => (f ρ).map .lst
theorem Gr.add {Z H Z' H' : Hp} (g : Gr Z H Z' H') {p : Addr} {o : HO} (h : H' p = some o) (n : H p = none) (z : Z' p = none) : Gr Z H (upd Z' p o) H' := by
  refine ⟨g.h, fun a u q => ?_, fun a u q => ?_, fun a u q => ?_⟩
  · have := g.z a u q
    rw [upd_ne fun e => by subst e; rw [z] at this; cases this]
    exact this
  · by_cases e : a = p
    · subst e; rw [upd_same] at q; rw [h]; exact q
    · rw [upd_ne e] at q; exact g.s a u q
  · by_cases e : a = p
    · subst e; exact .inr n
    · rw [upd_ne e] at q; exact g.n a u q
theorem tF_p {f : En → Option (List Dt)} (σ : L2.St) (H : Hp) (Q : VK) (q : tP K (pF f) σ H Q) : tF K f σ H Q := by
  obtain ⟨Z, ρ, d, r, hf, k⟩ := q
  obtain ⟨ds, hd, rfl⟩ := mapS hf
  exact ⟨Z, ρ, ds, r, hd, fun p vs H' Z' g hp hn hz t => k _ H' (upd Z' p (.lst vs)) (g.add hp hn hz) (.lst upd_same (t.mono fun a o h => by rw [upd_ne fun e => by subst e; rw [hz] at h; cases h]; exact h))⟩
theorem QF.p {f : En → Option (List Dt)} (h : QF X e f) : QP X e (pF f) := h.weak tF_p
/-- what a new object at p leaves -/
theorem fresh_lst {Z H : Hp} {ρ : En} {Q : VK} {ds : List Dt} {p : Addr} {vs : List V} {Z0 H0 : Hp} (g0 : Gr Z0 H0 Z H) (t : Dats K Z vs ds) (np : H p = none)
    (k : ∀ p vs H' Z', Gr Z0 H0 Z' H' → H' p = some (.lst vs) → H0 p = none → Z' p = none → Dats K Z' vs ds → Q (.ref p) H') : Q (.ref p) (upd H p (.lst vs)) := by
  have zp : Z p = none := by
    cases q : Z p with
    | none => rfl
    | some o => rw [g0.s p o q] at np; cases np
  exact k p vs _ Z ⟨fun a o h => by have := g0.h a o h; rw [upd_ne (ne_of_none this np)]; exact this, g0.z, fun a o h => by rw [upd_ne fun e => by subst e; rw [zp] at h; cases h]; exact g0.s a o h, g0.n⟩ upd_same (g0.h.free np) zp t
/-- zip of two lists -/
def zipD : List Dt → Option (List Dt)
  | [x, y] => (lstOf x).bind fun xs => (lstOf y).map fun ys => xs.zipWith (fun p q => .tup [p, q]) ys
  | _ => none
theorem zip_get {xs ys : List Dt} {i : Nat} (h : i < (xs.zipWith (fun p q => Dt.tup [p, q]) ys).length) : ∃ x y, xs[i]? = some x ∧ ys[i]? = some y ∧ (xs.zipWith (fun p q => Dt.tup [p, q]) ys)[i]? = some (.tup [x, y]) := by
  rw [List.length_zipWith] at h
  have h1 : i < xs.length := by omega
  have h2 : i < ys.length := by omega
  exact ⟨xs[i], ys[i], by simp [h1], by simp [h2], by simp [List.getElem?_zipWith, h1, h2]⟩
theorem i_zip {p tpos : Pos} {elts : List Expr} {kk : Nat} {f : En → Option (List Dt)} (hm : X.mg "zip" = none) (ha : QPs X [a, b] f) (hg : Gl X "zip" := by rfl)
    (hs : starEach [a, b] X.env = (false, eval a X.env) :: starEach [b] X.env := by rfl) (hpl : (backTo pos (starEach [b] X.env)).any (·.1) = false := by rfl) : QI X (.Tuple elts kk tpos) (.Call (.Name "zip" p) [a, b] [] pos) (iN zipD f) :=
  (pi_zip hg hm ha hs hpl).weak fun σ H R ⟨Z, ρ, ds, r, hf, k⟩ => by
    obtain ⟨x, hx, hf⟩ := bindS hf
    refine ⟨Z, ρ, x, r, hx, fun vs H' Z' g dv => ?_⟩
    unfold zipD at hf
    split at hf
    · obtain ⟨xs, h1, hf⟩ := bindS hf
      obtain ⟨ys, h2, hf⟩ := mapS hf
      subst hf
      cases dv with
      | cons d1 t =>
        cases t with
        | cons d2 t =>
          cases t
          obtain ⟨p1, v1, rfl, l1, t1⟩ := lstOf_ok h1 d1
          obtain ⟨p2, v2, rfl, l2, t2⟩ := lstOf_ok h2 d2
          refine ⟨_, _, _, _, rfl, g.s.seq l1, g.s.seq l2, k _ H' Z' g ⟨fun i H s hi => ?_, fun i H s hi => ?_⟩⟩
          · obtain ⟨x, y, e1, e2, e3⟩ := zip_get hi
            obtain ⟨v, hv, dv⟩ := t1.get e1
            obtain ⟨u, hu, du⟩ := t2.get e2
            refine ⟨⟨v1, v2, v, u, s.seq l1, s.seq l2, hv, hu⟩, fun w H'' q => ?_⟩
            obtain ⟨T, x', y', rfl, nT, rfl, q1, q2⟩ := q
            have a1 := q1 v1 (s.seq l1)
            rw [hv] at a1
            cases a1
            have a2 := q2 v2 (s.seq l2)
            rw [hu] at a2
            cases a2
            have w2 := Gr.new s nT (.tup [v, u])
            exact ⟨w2.h, _, upd Z' T (.tup [v, u]), e3, w2.z, w2.s, w2.n, (new_tup s (.cons dv (.cons du .nil)) nT).2⟩
          · rw [List.length_zipWith] at hi
            refine ⟨v1, v2, s.seq l1, s.seq l2, ?_⟩
            rw [t1.length, t2.length]
            omega
    · cases hf
/-! ### targets -/
theorem g_name {i : Nat} {x : Str} {vs : List Nat} (hN : X.N.Nodup) (hi : X.N[i]? = some x := by rfl) (hx : Loc X.env.scope x := by first | exact Or.inl rfl | exact Or.inr rfl) (hv : i ∈ vs := by decide) (hf : X.fn x = true ∨ X.env.scope.names.lookup x = some .local := by first | exact .inl rfl | exact .inr rfl | assumption) : QG X vs (.Name x pos) (gN i) :=
  (pg_name hN hi hx hf).weak fun v σ H Q ⟨Z, ρ, d, ρ', r, dv, hb, k⟩ => by
    unfold gN at hb
    split at hb
    · rename_i hl
      cases hb
      exact k _ (r.set dv (by rw [r.l]; exact hl)) (wipe_set hv)
    · cases hb
theorem gs_nil {vs : List Nat} : QGs X vs [] gsNil := pgs_nil.weak fun xs σ H Q ⟨Z, ρ, ds, ρ', r, dv, hb, k⟩ => by
  unfold gsNil at hb
  split at hb
  · cases hb
    cases dv
    exact ⟨rfl, k σ r rfl⟩
  · cases hb
theorem gs_cons {vs : List Nat} {t : Expr} {ts : List Expr} {b : Dt → En → Option En} {bs : List Dt → En → Option En} (h1 : QG X vs t b) (h2 : QGs X vs ts bs) (hs : (assignEach (t :: ts) X.env).map (·.2) = assign t X.env :: (assignEach ts X.env).map (·.2) := by rfl) : QGs X vs (t :: ts) (gsCons b bs) :=
  (pgs_cons h1 h2 hs).weak fun xs σ H Q ⟨Z, ρ, ds, ρ', r, dv, hb, k⟩ => by
    unfold gsCons at hb
    split at hb
    · obtain ⟨ρ1, e1, e2⟩ := bindS hb
      cases dv with
      | cons d1 t =>
        exact ⟨_, _, rfl, Z, ρ, _, ρ1, r, d1, e1, fun σ1 r1 w1 => ⟨Z, ρ1, _, ρ', r1, t, e2, fun σ2 r2 w2 => k σ2 r2 (w2.trans w1)⟩⟩
    · cases hb
theorem g_tup {vs : List Nat} {ts : List Expr} {j : Nat} {bs : List Dt → En → Option En} {n : Nat} (hc : X.calm = true) (h : QGs X vs ts bs) (hb : ∀ ds ρ ρ', bs ds ρ = some ρ' → ds.length = n) (hn : (assignEach ts X.env).length = n := by rfl) (hst : (assignEach ts X.env).findIdx? (·.1) = none := by rfl) : QG X vs (.Tuple ts j pos) (gT bs) :=
  (pg_tup hc h hn hst).weak fun v σ H Q ⟨Z, ρ, d, ρ', r, dv, hb', k⟩ => by
    unfold gT at hb'
    split at hb'
    · cases dv with
      | tup h t => exact ⟨_, _, rfl, Same.sqt r.s h, by rw [t.length]; exact hb _ _ _ hb', Z, ρ, _, ρ', r, t, hb', k⟩
    · cases hb'
/-! ### comprehensions -/
def cLp (b : Dt → En → Option En) (t : En → Option Bool) (e : En → Option Dt) (ρ : En) : List Dt → Option (List Dt)
  | [] => some []
  | d :: ds => (b d ρ).bind fun ρ1 => (t ρ1).bind fun c => if c = true then (e ρ1).bind fun x => (cLp b t e ρ ds).bind fun xs => some (x :: xs) else cLp b t e ρ ds
def bYes : En → Option Bool := fun _ => some true
/-- [e for .. in it if t] -/
def fLc (it : En → Option (List Dt)) (b : Dt → En → Option En) (t : En → Option Bool) (e : En → Option Dt) (vs : List Nat) : En → Option (List Dt) := fun ρ => (it ρ).bind fun ds => (cLp b t e (wipeE ρ vs) ds).bind fun xs => if xs.length ≤ sizeLine then some xs else none
abbrev QBs (X : Cx) (ifs : List Expr) (t : En → Option Bool) : Prop := PTs X ifs (tB X.K t)
theorem _root_.L2.PTs.weak {X : Cx} {e : List Expr} {t u : TT} (h : PTs X e t) (k : ∀ σ H Q, u σ H Q → t σ H Q) : PTs X e u := ⟨fun pins s σ H Q I q => h.run pins s σ H Q I (k σ H Q q)⟩
theorem bs_nil : QBs X [] bYes := pts_nil.weak fun σ H Q ⟨Z, ρ, b, r, hf, k⟩ => by
  cases hf
  exact k H Z (Gr.refl r.s)
theorem bs_one {t : En → Option Bool} (h : QB X c t) : QBs X [c] t := pts_one h
theorem wipe_wipe (σ : L2.St) : ∀ vs : List Nat, L2.wipe (L2.wipe σ vs) vs = L2.wipe σ vs
  | [] => rfl
  | v :: ws => by
    show L2.wipe ((L2.wipe σ ws).set v none) (v :: ws) = _
    rw [wipe_set List.mem_cons_self]
    show (L2.wipe (L2.wipe σ ws) ws).set v none = (L2.wipe σ ws).set v none
    rw [wipe_wipe σ ws]
def del (D : Addr) (H : Hp) : Hp := fun a => if a = D then none else H a
theorem del_same {D : Addr} {H : Hp} : Same (del D H) H := fun a o h => by
  unfold del at h
  split at h
  · cases h
  · exact h
theorem del_of {D : Addr} {H U : Hp} (s : Same U H) (n : U D = none) : Same U (del D H) := fun a o h => by
  unfold del
  rw [if_neg fun e => by subst e; rw [n] at h; cases h]
  exact s a o h
theorem del_at {D : Addr} {H : Hp} : del D H D = none := if_pos rfl
theorem del_upd {D : Addr} {H : Hp} {o : HO} : del D (upd H D o) = del D H := by
  funext a
  unfold del
  split
  · rfl
  · rename_i h; exact upd_ne h
theorem lc_rd {it : En → Option (List Dt)} {b : Dt → En → Option En} {t : En → Option Bool} {e : En → Option Dt} {vs : List Nat} (σ : L2.St) (H : Hp) (Q : VK) (q : tF K (fLc it b t e vs) σ H Q) : tLc (tI K it) (tG K vs b) (tB K t) (tP K e) vs σ H Q := by
  obtain ⟨Z, ρ, d, r, hf, k⟩ := q
  obtain ⟨ds, hds, hf⟩ := bindS hf
  obtain ⟨xs, hxs, hf⟩ := bindS hf
  split at hf
  · rename_i hlen
    have e0 := Option.some.inj hf
    subst e0
    refine ⟨Z, ρ, ds, r, hds, fun J H1 Z1 g1 wk D hD => ?_⟩
    -- Z1 is without D
    have z1D : Z1 D = none := by
      cases q : Z1 D with
      | none => rfl
      | some o => rw [g1.s D o q] at hD; cases hD
    -- W: xs1 made, the rest still to come
    refine ⟨fun i m H => m = ds.length - i ∧ i ≤ ds.length ∧ ∃ acc xs1 xs2 Z2, H D = some (.lst acc) ∧ Dats K Z2 acc xs1 ∧ Same Z1 Z2 ∧ Same Z2 H ∧ Z2 D = none ∧ (∀ a o, Z2 a = some o → Z1 a = some o ∨ H1 a = none) ∧ Same H1 H ∧ cLp b t e (wipeE ρ vs) (ds.drop i) = some xs2 ∧ xs1 ++ xs2 = xs,
      ⟨ds.length, by simp, Nat.zero_le _, [], [], xs, Z1, upd_same, .nil, Same.refl _, fun a o h => by rw [upd_ne (ne_of_none (g1.s a o h) hD)]; exact g1.s a o h, z1D, fun a o h => .inl h, fun a o h => by rw [upd_ne (ne_of_none h hD)]; exact h, by simpa using hxs, rfl⟩, ?_⟩
    rintro i m H ⟨rfl, hi, acc, xs1, xs2, Z2, hDH, tA, s12, s2H, z2D, n2, sH1, hL, hx⟩
    have s1H : Same Z1 H := s12.trans s2H
    by_cases hlt : i < ds.length
    · refine .inr ⟨(wk.go i H s1H hlt).1, fun H' => ∃ acc xs1 xs2 Z2, H' D = some (.lst acc) ∧ Dats K Z2 acc xs1 ∧ Same Z1 Z2 ∧ Same Z2 H' ∧ Z2 D = none ∧ (∀ a o, Z2 a = some o → Z1 a = some o ∨ H1 a = none) ∧ Same H1 H' ∧ cLp b t e (wipeE ρ vs) (ds.drop (i + 1)) = some xs2 ∧ xs1 ++ xs2 = xs, fun H' p => ⟨ds.length - (i + 1), by omega, rfl, hlt, p⟩, fun x H' y => ?_⟩
      obtain ⟨sHH, d, U, hd, sU, sUH, nU, dx⟩ := (wk.go i H s1H hlt).2 x H' y
      have ed : d = ds[i] := by
        rw [List.getElem?_eq_getElem hlt] at hd
        exact (Option.some.inj hd).symm
      rw [List.drop_eq_getElem_cons hlt, ← ed] at hL
      unfold cLp at hL
      obtain ⟨ρ1, hb, hL⟩ := bindS hL
      obtain ⟨c, hc, hL⟩ := bindS hL
      have uD : U D = none := by
        cases q : U D with
        | none => rfl
        | some o =>
          rcases nU D o q with z | z
          · rw [z1D] at z; cases z
          · rw [hDH] at z; cases z
      -- what the block reads
      have sUb' : ∀ a o u, Z2 a = some o → U a = some u → o = u := fun a o u p q => by
        have p' := sHH a o (s2H a o p)
        rw [sUH a u q] at p'
        exact (Option.some.inj p').symm
      have s2b : Same Z2 (join Z2 U) := join_l
      have sUb : Same U (join Z2 U) := join_r sUb'
      have sbH : Same (join Z2 U) H' := fun a o h => (join_of h).elim (fun h => sHH a o (s2H a o h)) (sUH a o)
      have nb : ∀ a o, join Z2 U a = some o → Z1 a = some o ∨ H1 a = none := fun a o h => (join_of h).elim (n2 a o) fun h => (nU a o h).imp id fun h => sH1.free h
      have bD : join Z2 U D = none := by
        cases q : join Z2 U D with
        | none => rfl
        | some o =>
          rcases join_of q with z | z
          · rw [z2D] at z; cases z
          · rw [uD] at z; cases z
      have rv : Rv K (join Z2 U) H' (L2.wipe σ vs) (wipeE ρ vs) := by
        have r1 := (r.gr g1).wipe vs
        exact ⟨sbH, r1.l, fun j e h => let ⟨v, a, b⟩ := r1.d j e h; ⟨v, a, b.mono (s12.trans s2b)⟩⟩
      refine ⟨join Z2 U, wipeE ρ vs, d, ρ1, rv, dx.mono sUb, hb, fun σ2 r2 w2 => ⟨w2.trans (wipe_wipe σ vs), join Z2 U, ρ1, c, r2, hc, fun H3 Z3 g3 => ?_⟩⟩
      have hD' : H' D = some (.lst acc) := sHH D _ hDH
      have nm : ∀ {Z : Hp}, (∀ a o, Z a = some o → join Z2 U a = some o ∨ H' a = none) → Z D = none := fun {Z} n => by
        cases q : Z D with
        | none => rfl
        | some o =>
          rcases n D o q with z | z
          · rw [bD] at z; cases z
          · rw [hD'] at z; cases z
      cases c with
      | false =>
        simp only [Bool.false_eq_true, if_false] at hL ⊢
        exact ⟨acc, xs1, xs2, Z2, g3.h D _ hD', tA, s12, (s2H.trans sHH).trans g3.h, z2D, n2, (sH1.trans sHH).trans g3.h, hL, hx⟩
      | true =>
        simp only [if_true] at hL ⊢
        obtain ⟨y, hy, hL⟩ := bindS hL
        obtain ⟨ys, hys, hL⟩ := bindS hL
        cases hL
        refine ⟨Z3, ρ1, y, r2.gr g3, hy, fun v H4 Z4 g4 dv => ?_⟩
        have g := g3.trans g4
        have hD4 : H4 D = some (.lst acc) := g.h D _ hD'
        have z4D : Z4 D = none := nm g.n
        have sUp : Same Z4 (upd H4 D (.lst (acc ++ [v]))) := fun a o h => by
          rw [upd_ne fun e => by subst e; rw [z4D] at h; cases h]
          exact g.s a o h
        have nD : H1 D = none := hD
        have l1 : acc.length < sizeLine := by
          have := tA.length
          rw [← hx] at hlen
          simp only [List.length_append, List.length_cons] at hlen
          omega
        refine ⟨acc, hD4, l1, acc ++ [v], xs1 ++ [y], ys, Z4, upd_same, (tA.mono (s2b.trans g.z)).append (.cons dv .nil), (s12.trans s2b).trans g.z, sUp, z4D, fun a o h => (g.n a o h).elim (nb a o) fun h => .inr (sH1.free (sHH.free h)), fun a o h => ?_, hys, by rw [List.append_assoc]; exact hx⟩
        rw [upd_ne fun e => by subst e; rw [nD] at h; cases h]
        exact g.h a o (sHH a o (sH1 a o h))
    · have ei : i = ds.length := by omega
      subst ei
      rw [List.drop_length] at hL
      cases hL
      rw [List.append_nil] at hx
      subst hx
      refine .inl ⟨wk.stop _ H s1H (Nat.le_refl _), k D acc H Z2 ⟨g1.h.trans sH1, g1.z.trans s12, s2H, fun a o h => (n2 a o h).elim (g1.n a o) fun h => .inr (g1.h.free h)⟩ hDH (g1.h.free hD) z2D tA⟩
  · cases hf
theorem f_lc {iter e : Expr} {ifs : List Expr} {scope : Scope} {own : List (Str × Nat)} {it : En → Option (List Dt)} {b : Dt → En → Option En} {t : En → Option Bool} {f : En → Option Dt} (hc : X.calm = true) (hN : X.N.Nodup) (hi : QI X tg iter it) (ok : BlkOk X.N X.env.scope scope own)
    (hg : ∀ (s : Shared) (H : Hp) (C : Addr) (cl : List (Str × Addr)) (fp : List Addr), QG (X.blk s H scope (compEnvC scope cl C X.env) fp) (own.map (·.2)) tg b) (ht : ∀ (s : Shared) (H : Hp) (C : Addr) (cl : List (Str × Addr)) (fp : List Addr), QBs (X.blk s H scope (compEnvC scope cl C X.env) fp) ifs t)
    (he : ∀ (s : Shared) (H : Hp) (C : Addr) (cl : List (Str × Addr)) (fp : List Addr), QP (X.blk s H scope (compEnvC scope cl C X.env) fp) e f) (hs : ∀ x, foldedSetIterable iter X.env x = pure x := by intro _; rfl) :
    QF X (.ListComp e [⟨tg, iter, ifs, 0⟩] scope pos) (fLc it b t f (own.map (·.2))) := (pe_lc hc hN hi ok hg ht he hs).weak lc_rd
end Qs
namespace Qs
open PySem PySem.Spec PyProof.Rows L2
variable [CTab]
variable {X : Cx} {K : PySem.W.Frag} {pn : List (Nat × V)} {tg a b c e : Expr} {f g h : En → Option Dt} {pos p2 : Pos}
/-- displays -/
def fLst (f : En → Option (List Dt)) : En → Option (List Dt) := fun ρ => (f ρ).bind fun ds => if ds.length ≤ sizeLine then some ds else none
theorem f_lst {es : List Expr} {f : En → Option (List Dt)} (ha : QPs X es f) : QF X (.List es pos) (fLst f) := (pe_lst ha).weak fun σ H Q ⟨Z, ρ, d, r, hf, k⟩ => by
  obtain ⟨ds, hd, hf⟩ := bindS hf
  split at hf
  · rename_i hl
    cases hf
    exact ⟨Z, ρ, _, r, hd, fun vs H' Z' g t => ⟨by rw [t.length]; exact hl, fun p np => fresh_lst (ρ := ρ) g t np k⟩⟩
  · cases hf
def fSl (f : En → Option Dt) (lo hi : Option (En → Option Dt)) : En → Option (List Dt) := fun ρ => (f ρ).bind fun x => (oP lo ρ).bind fun l => (oP hi ρ).bind fun u => (lstOf x).map fun ds => cutD ds l u
theorem f_sl {lo hi : Option Expr} {fl fh : Option (En → Option Dt)} (ha : QP X a f) (hl : QOp X lo (oP fl)) (hh : QOp X hi (oP fh)) : QF X (.Subscript a (.Slice lo hi none p2) pos) (fSl f fl fh) :=
  (pe_slice sl_list ha hl hh).weak fun σ H Q ⟨Z, ρ, d, r, hf, k⟩ => by
    obtain ⟨x, hx, hf⟩ := bindS hf
    obtain ⟨l, hl, hf⟩ := bindS hf
    obtain ⟨u, hu, hf⟩ := bindS hf
    obtain ⟨ds, hd, rfl⟩ := mapS hf
    refine ⟨Z, ρ, x, r, hx, fun v H1 Z1 g1 d1 => ⟨Z1, ρ, l, r.gr g1, hl, fun H2 Z2 g2 => ⟨Z2, ρ, u, (r.gr g1).gr g2, hu, fun H3 Z3 g3 => ?_⟩⟩⟩
    obtain ⟨p, vs, rfl, hs, t⟩ := lstOf_ok hd ((d1.mono g2.z).mono g3.z)
    exact ⟨p, vs, rfl, g3.s.seq hs, fun q nq => fresh_lst (ρ := ρ) ((g1.trans g2).trans g3) (cut_ok t) nq k⟩
def fCat (f g : En → Option Dt) : En → Option (List Dt) := fun ρ => (f ρ).bind fun x => (g ρ).bind fun y => match x, y with | .lst xs, .lst ys => if xs.length + ys.length ≤ sizeLine then some (xs ++ ys) else none | _, _ => none
theorem f_cat (ha : QP X a f) (hb : QP X b g) : QF X (.BinOp a .Add b pos) (fCat f g) := (pe_op op_cat ha hb).weak fun σ H Q ⟨Z, ρ, d, r, hf, k⟩ => by
  obtain ⟨x, hx, hf⟩ := bindS hf
  obtain ⟨y, hy, hf⟩ := bindS hf
  refine ⟨Z, ρ, x, r, hx, fun v H1 Z1 g1 d1 => ⟨Z1, ρ, y, r.gr g1, hy, fun u H2 Z2 g2 d2 => ?_⟩⟩
  split at hf
  · split at hf
    · rename_i hl
      cases hf
      cases d1 with
      | lst h1 t1 =>
        cases d2 with
        | lst h2 t2 => exact ⟨_, _, _, _, rfl, rfl, g2.s _ _ (g2.z _ _ h1), g2.s _ _ h2, by rw [t1.length, t2.length]; exact hl, fun q nq => fresh_lst (ρ := ρ) (g1.trans g2) ((t1.mono g2.z).append t2) nq k⟩
    · cases hf
  · cases hf
def fRep (f g : En → Option Dt) : En → Option (List Dt) := fun ρ => (f ρ).bind fun x => (g ρ).bind fun y => match x, y with | .lst xs, .int k => if -(2 ^ 63) ≤ k ∧ k < 2 ^ 63 ∧ xs.length * k.toNat ≤ sizeLine then some (List.replicate k.toNat xs).flatten else none | _, _ => none
theorem f_rep (ha : QP X a f) (hb : QP X b g) : QF X (.BinOp a .Mult b pos) (fRep f g) := (pe_op op_rep ha hb).weak fun σ H Q ⟨Z, ρ, d, r, hf, k⟩ => by
  obtain ⟨x, hx, hf⟩ := bindS hf
  obtain ⟨y, hy, hf⟩ := bindS hf
  refine ⟨Z, ρ, x, r, hx, fun v H1 Z1 g1 d1 => ⟨Z1, ρ, y, r.gr g1, hy, fun u H2 Z2 g2 d2 => ?_⟩⟩
  split at hf
  · split at hf
    · rename_i hl
      cases hf
      cases d2
      cases d1 with
      | lst h1 t1 => exact ⟨_, _, _, rfl, rfl, g2.s _ _ (g2.z _ _ h1), hl.1, hl.2.1, by rw [t1.length]; exact hl.2.2, fun q nq => fresh_lst (ρ := ρ) (g1.trans g2) ((t1.mono g2.z).rep _) nq k⟩
    · cases hf
  · cases hf
def fList (f : En → Option (List Dt)) : En → Option (List Dt) := fun ρ => (f ρ).bind fun xs => match xs with | [x] => items x | _ => none
theorem f_list {p : Pos} {f : En → Option (List Dt)} (hm : X.mg "list" = none) (ha : QPs X [a] f) (hg : Gl X "list" := by rfl) (h1 : starEach [a] X.env = (false, eval a X.env) :: starEach [] X.env := by rfl) : QF X (.Call (.Name "list" p) [a] [] pos) (fList f) :=
  (pe_callTy call_list_of hg hm (by decide +kernel) ha (by decide) (by decide) h1).weak fun σ H Q ⟨Z, ρ, d, r, hf, k⟩ => by
    obtain ⟨xs, hx, hf⟩ := bindS hf
    split at hf
    · refine ⟨Z, ρ, _, r, hx, fun vs H' Z' g dv => ?_⟩
      cases dv with
      | cons d1 t =>
        cases t
        obtain ⟨p, ws, rfl, h, hd⟩ := items_ok hf d1
        exact ⟨p, ws, rfl, h.elim (fun h => .inl (g.s.seq h)) fun h => .inr (Same.sqt g.s h), fun q nq => fresh_lst (ρ := ρ) g hd nq k⟩
    · cases hf
def fSorted (f : En → Option (List Dt)) : En → Option (List Dt) := fun ρ => (f ρ).bind fun xs => match xs with | [x] => (lstOf x).bind fun ds => (intsOf ds).bind fun ns => if ns.length < 64 then some ((ns.mergeSort (· ≤ ·)).map .int) else none | _ => none
/-! ### values that are owned or leaves; nothing that is owned changes -/
def tE (K : PySem.W.Frag) (pn : List (Nat × V)) (f : En → Option Et) : TE := fun σ H Q => ∃ A F N ρ e, Rp K A F N H pn σ ρ [] [] ∧ f ρ = some e ∧ ∀ v H' F' N', Same H H' → Stp F N F' N' → Rp K A F' N' H' pn σ ρ [v] [e] → Q v H'
def tEs (K : PySem.W.Frag) (pn : List (Nat × V)) (f : En → Option (List Et)) : TA := fun σ H Q => ∃ A F N ρ es, Rp K A F N H pn σ ρ [] [] ∧ f ρ = some es ∧ ∀ vs H' F' N', Same H H' → Stp F N F' N' → Rp K A F' N' H' pn σ ρ vs es → Q vs H'
abbrev QE (X : Cx) (pn : List (Nat × V)) (e : Expr) (f : En → Option Et) : Prop := PE X e (tE X.K pn f)
abbrev QEs (X : Cx) (pn : List (Nat × V)) (es : List Expr) (f : En → Option (List Et)) : Prop := PA X es (tEs X.K pn f)
/-- a scalar -/
def eP (f : En → Option Dt) : En → Option Et := fun ρ => (f ρ).bind fun d => if sc d = true then some (.n d) else none
theorem Rp.temp {A F N H : Hp} {σ : L2.St} {ρ : En} {v : V} {d : Dt} (r : Rp K A F N H pn σ ρ [] []) (dv : Dat K N v d) : Rp K A F N H pn σ ρ [v] [.n d] := by
  obtain ⟨fp, gp, h1, h2, h3, h4⟩ := r.own
  cases h2
  exact ⟨⟨fp, [], h1, .cons (fp := []) (.n dv) .nil, h3, h4⟩, r.sA, r.sN, r.nA, r.nF, r.fA, r.pin⟩
theorem e_p (h : QP X e f) : QE X pn e (eP f) := h.weak fun σ H Q ⟨A, F, N, ρ, e, r, hf, k⟩ => by
  obtain ⟨d, hd, hf⟩ := bindS hf
  split at hf
  · rename_i hs
    cases hf
    exact ⟨H, ρ, d, r.rv, hd, fun v H' Z' g dv => k v H' F N g.h Stp.refl ((r.mono g.h).temp (dv.sc hs))⟩
  · cases hf
/-- a new list of scalars -/
def eF (f : En → Option (List Dt)) : En → Option Et := fun ρ => (f ρ).bind fun ds => if ds.all sc = true then some (.fl ds) else none
theorem Rp.newfl {A F N H H' : Hp} {σ : L2.St} {ρ : En} {p : Addr} {vs : List V} {ds : List Dt} (r : Rp K A F N H pn σ ρ [] []) (s : Same H H') (np : H p = none) (hp : H' p = some (.lst vs)) (t : Dats K N vs ds) : Rp K A F N H' pn σ ρ [.ref p] [.fl ds] := by
  have r' := r.mono s
  obtain ⟨fp, gp, h1, h2, h3, h4⟩ := r.own
  obtain ⟨fp', gp', h1', h2', h3', h4'⟩ := r'.own
  cases h2
  have hA : A p = none := by
    cases q : A p with
    | none => rfl
    | some o => rw [r.sA p o q] at np; cases np
  have hN : N p = none := by
    cases q : N p with
    | none => rfl
    | some o => rw [r.sN p o q] at np; cases np
  have npf : p ∉ fp := fun hb => by
    obtain ⟨o, e⟩ := h1.tracked p hb
    rw [np] at e; cases e
  refine ⟨⟨fp, [p], h1.frame (Same.refl _) (Same.refl _) fun a ha => same_at s (h1.tracked a ha), .cons (fp := [p]) (.fl hp t) .nil, ?_, fun a ha => ?_⟩, r'.sA, r'.sN, r.nA, r.nF, r.fA, r.pin⟩
  · rw [List.append_nil] at h3
    exact List.nodup_append.mpr ⟨h3, by simp, fun a ha b hb e => by simp only [List.mem_singleton] at hb; subst hb; subst e; exact npf ha⟩
  · rcases List.mem_append.mp ha with z | z
    · exact h4 a (by simp [z])
    · simp only [List.mem_singleton] at z; subst z; exact ⟨hA, hN⟩
theorem tF_e {f : En → Option (List Dt)} (σ : L2.St) (H : Hp) (Q : VK) (q : tE K pn (eF f) σ H Q) : tF K f σ H Q := by
  obtain ⟨A, F, N, ρ, e, r, hf, k⟩ := q
  obtain ⟨ds, hd, hf⟩ := bindS hf
  split at hf
  · rename_i hs
    cases hf
    exact ⟨H, ρ, ds, r.rv, hd, fun p vs H' Z' g hp hn hz t => k _ H' F N g.h Stp.refl (r.newfl g.h hn hp (t.sc hs))⟩
  · cases hf
theorem e_f {f : En → Option (List Dt)} (h : QF X e f) : QE X pn e (eF f) := h.weak tF_e
/-- a leaf: data that is N's or F's -/
def lf (d : Dt) : Et := if sc d = true then .n d else .o d
theorem lf_own {F N H : Hp} {v : V} {d : Dt} (h : Dat K F v d) : Own K F N H v (lf d) [] := by
  unfold lf
  by_cases s : sc d = true
  · rw [if_pos s]; exact .n (h.sc s)
  · rw [if_neg s]; exact .o h
def eV (i : Nat) : En → Option Et := fun ρ => match ρ[i]? with | some (some (.n d)) => some (.n d) | some (some (.o d)) => some (lf d) | _ => none
theorem Rp.leaf {A F N H : Hp} {σ : L2.St} {ρ : En} {v : V} {e : Et} (r : Rp K A F N H pn σ ρ [] []) (o : Own K F N H v e []) : Rp K A F N H pn σ ρ [v] [e] := by
  obtain ⟨fp, gp, h1, h2, h3, h4⟩ := r.own
  cases h2
  exact ⟨⟨fp, [], h1, .cons (fp := []) o .nil, h3, h4⟩, r.sA, r.sN, r.nA, r.nF, r.fA, r.pin⟩
theorem Rp.at {A F N H : Hp} {σ : L2.St} {ρ : En} {i : Nat} {e : Et} {vs : List V} {es : List Et} (r : Rp K A F N H pn σ ρ vs es) (hi : ρ[i]? = some (some e)) : ∃ v fp, σ[i]? = some (some v) ∧ Own K F N H v e fp := by
  obtain ⟨fp, gp, h1, h2, h3, h4⟩ := r.own
  obtain ⟨pre, mid, post, rfl, f1, f2, f3⟩ := h1.focus hi
  obtain ⟨v, a, b⟩ := f1 e rfl
  exact ⟨v, mid, a, b⟩
theorem e_var {i : Nat} {x : Str} (hN : X.N[i]? = some x := by rfl) (hv : Vis X.env.scope x := by first | exact Or.inl rfl | exact Or.inr (Or.inl rfl) | exact Or.inr (Or.inr rfl)) (hd : (x == ("__debug__" : Str)) = false := by decide) (hcd : (x == ("__classdict__" : Str)) = false := by decide) : QE X pn (.Name x pos) (eV i) :=
  (pe_var hN hv hd hcd).weak fun σ H Q ⟨A, F, N, ρ, e, r, hf, k⟩ => by
    unfold eV at hf
    split at hf
    · rename_i d he
      cases hf
      obtain ⟨v, fp, hv, ho⟩ := r.at he
      refine ⟨v, hv, k v H F N (Same.refl _) Stp.refl (r.leaf ?_)⟩
      cases ho
      exact .n (by assumption)
    · rename_i d he
      cases hf
      obtain ⟨v, fp, hv, ho⟩ := r.at he
      refine ⟨v, hv, k v H F N (Same.refl _) Stp.refl (r.leaf ?_)⟩
      cases ho
      exact lf_own (by assumption)
    · cases hf
/-- argument lists -/
def esNil : En → Option (List Et) := fun _ => some []
def esCons (f : En → Option Et) (g : En → Option (List Et)) : En → Option (List Et) := fun ρ => (f ρ).bind fun x => (g ρ).bind fun xs => some (x :: xs)
theorem es_nil : QEs X pn [] esNil := pa_nil.weak fun σ H Q ⟨A, F, N, ρ, ds, r, hf, k⟩ => by
  cases hf
  exact k [] H F N (Same.refl _) Stp.refl r
theorem es_cons {es : List Expr} {f : En → Option Et} {g : En → Option (List Et)} (ha : QE X pn e f) (hr : QEs X pn es g) (hs : starEach (e :: es) X.env = (false, eval e X.env) :: starEach es X.env := by rfl) : QEs X pn (e :: es) (esCons f g) := (pa_cons ha hr hs).weak fun σ H Q ⟨A, F, N, ρ, ds, r, hf, k⟩ => by
  obtain ⟨x, hx, hf⟩ := bindS hf
  obtain ⟨y, hy, hf⟩ := bindS hf
  cases hf
  refine ⟨A, F, N, ρ, x, r, hx, fun v H1 F1 N1 s1 t1 r1 => ?_⟩
  obtain ⟨A', r2, sA, back⟩ := r1.hide
  exact ⟨A', F1, N1, ρ, y, r2, hy, fun vs H2 F2 N2 s2 t2 r3 => k (v :: vs) H2 F2 N2 (s1.trans s2) (t1.trans t2) (back F2 N2 H2 σ ρ vs y t2 r3)⟩
/-- displays -/
def eLst (f : En → Option (List Et)) : En → Option Et := fun ρ => (f ρ).bind fun es => if es.length ≤ sizeLine then some (.lst es) else none
def eTup (f : En → Option (List Et)) : En → Option Et := fun ρ => (f ρ).bind fun es => if es.length ≤ sizeLine then some (.tup es) else none
theorem Rp.len {A F N H : Hp} {σ : L2.St} {ρ : En} {vs : List V} {es : List Et} (r : Rp K A F N H pn σ ρ vs es) : vs.length = es.length := let ⟨_, _, _, h, _⟩ := r.own; h.length
theorem e_lst {es : List Expr} {f : En → Option (List Et)} (ha : QEs X pn es f) : QE X pn (.List es pos) (eLst f) := (pe_lst ha).weak fun σ H Q ⟨A, F, N, ρ, d, r, hf, k⟩ => by
  obtain ⟨es, he, hf⟩ := bindS hf
  split at hf
  · rename_i hl
    cases hf
    refine ⟨A, F, N, ρ, es, r, he, fun vs H' F' N' s t r' => ⟨by rw [r'.len]; exact hl, fun p np => k _ _ F' N' (fun a o h => ?_) t (r'.alloc np fun gp o => .lst upd_same o)⟩⟩
    rw [upd_ne (ne_of_none (s a o h) np)]
    exact s a o h
  · cases hf
theorem e_tup {es : List Expr} {x1} {f : En → Option (List Et)} (ha : QEs X pn es f) : QE X pn (.Tuple es x1 pos) (eTup f) := (pe_tup ha).weak fun σ H Q ⟨A, F, N, ρ, d, r, hf, k⟩ => by
  obtain ⟨es, he, hf⟩ := bindS hf
  split at hf
  · rename_i hl
    cases hf
    refine ⟨A, F, N, ρ, es, r, he, fun vs H' F' N' s t r' => ⟨by rw [r'.len]; exact hl, fun p np => k _ _ F' N' (fun a o h => ?_) t (r'.alloc np fun gp o => .tup upd_same o)⟩⟩
    rw [upd_ne (ne_of_none (s a o h) np)]
    exact s a o h
  · cases hf
end Qs
namespace Qs
open PySem PySem.Spec PyProof.Rows L2
variable [CTab]
variable {X : Cx} {K : PySem.W.Frag} {pn : List (Nat × V)} {tg a b c e : Expr} {f g h : En → Option Dt} {pos p2 : Pos}
/-! ### defs by what they do -/
inductive Fz | ok (r : Et) (es : List Et) | ex (c : Nat) (at_ : Int) (es : List Et)
abbrev Fn := List Et → Option Fz
def spM (K : PySem.W.Frag) (g : Fn) : Sp := fun vs H Q E => ∃ A F N es z, Rp K A F N H [] [] [] vs es ∧ g es = some z ∧ match z with
  | .ok r es' => ∀ v H' F' N', Stp F N F' N' → Rp K A F' N' H' [] [] [] (v :: vs) (r :: es') → Q v H'
  | .ex C i es' => ∀ d H' F' N', Stp F N F' N' → Rp K A F' N' H' [] [] [] vs es' → H' d = some (.xd [("at", .int i)]) → E (.ref (CTab.addr C)) (some d) H'
def none_ : Hp := fun _ => none
theorem same_none {H : Hp} : Same none_ H := fun _ _ h => by cases h
/-- data handed in, all of the heap alien -/
theorem rp_args {Z H : Hp} {vs : List V} {ds : List Dt} (s : Same Z H) (t : Dats K Z vs ds) : Rp K H Z none_ H [] [] [] vs (ds.map .o) := by
  have o : ∀ {vs : List V} {ds : List Dt}, Dats K Z vs ds → Owns K Z none_ H vs (ds.map .o) [] := fun {vs ds} t => by
    induction ds generalizing vs with
    | nil => cases t; exact .nil
    | cons d ds ih =>
      cases t with
      | cons h t => exact .cons (fp := []) (.o h) (ih t)
  exact ⟨⟨[], [], .nil, o t, List.nodup_nil, (fun a h => by simp at h)⟩, Same.refl _, same_none, (fun _ _ h => by cases h), same_none, (fun a o h => .inl (s a o h)), (fun _ h => by simp at h)⟩
/-- the result of such a call, as data -/
theorem rp_back {Z H F' N' H' : Hp} {v : V} {r : Et} {vs : List V} {es : List Et} (s : Same Z H) (st : Stp Z none_ F' N') (R : Rp K H F' N' H' [] [] [] (v :: vs) (r :: es)) : ∃ Z', Gr Z H Z' H' ∧ Dat K Z' v (toD r) := by
  obtain ⟨fp, gp, h1, h2, h3, h4⟩ := R.own
  cases h1
  cases h2 with
  | cons h t =>
    rename_i g1 g2
    rw [List.nil_append] at h4
    have k := R.grow h.tracked fun a ha => h4 a (List.mem_append_left _ ha)
    obtain ⟨st2, sH, nA, nF, fA, k⟩ := k
    refine ⟨join F' (ext N' H' g1), ⟨R.sA, fun a o h => st2.sF a o (st.sF a o h), fun a o h => ?_, fun a o h => ?_⟩, h.dat st2.sF (st2.sN.trans nF) fun a ha o h => nF a o ((k a ha).trans h)⟩
    · exact (fA a o h).elim (R.sA a o) (sH a o)
    · rcases join_of h with z | z
      · rcases st.fN a o z with z | z
        · exact .inl z
        · exact .inr (R.nA a o z)
      · exact .inr (nA a o z)
def cP (g : Fn) : List Dt → Option Dt := fun ds => match g (ds.map .o) with | some (.ok r _) => some (toD r) | _ => none
/-- .. as a thing of the caller's, if nothing old is in it -/
theorem rp_adopt {A F N H H1 F1 N1 H' : Hp} {σ : L2.St} {ρ : En} {Z : Hp} {v : V} {r : Et} {vs : List V} {es : List Et} (R : Rp K A F N H pn σ ρ [] []) (s : Same H H1) (st : Stp Z none_ F1 N1) (C : Rp K H1 F1 N1 H' [] [] [] (v :: vs) (r :: es)) (ho : own r = true) :
    ∃ F' N', Stp F N F' N' ∧ Rp K A F' N' H' pn σ ρ [v] [r] := by
  obtain ⟨fp, gp, h1, h2, h3, h4⟩ := C.own
  cases h1
  cases h2 with
  | cons h t =>
    rename_i g1 g2
    rw [List.nil_append] at h3 h4
    have R1 := R.mono s
    have R2 := R1.mono C.sA
    have hn : ∀ a o, N1 a = some o → H1 a = none := C.nA
    have cons : ∀ a o u, N a = some o → N1 a = some u → o = u := fun a o u p q => by
      have := hn a u q
      rw [R1.sN a o p] at this; cases this
    have cons2 : ∀ a o u, F a = some o → join N N1 a = some u → o = u := fun a o u p q => by
      have e1 := R2.sF a o p
      have e2 : H' a = some u := (join_of q).elim (R2.sN a u) (C.sN a u)
      rw [e1] at e2
      exact Option.some.inj e2
    obtain ⟨fp, gp, k1, k2, k3, k4⟩ := R2.own
    obtain ⟨fp0, gp0, j1, j2, j3, j4⟩ := R1.own
    cases k2
    cases j2
    rw [List.append_nil] at k3 k4 j3 j4
    have sF : Same F (join F (join N N1)) := join_l
    have sN : Same N (join N N1) := join_l
    have hg1 : ∀ a ∈ g1, H1 a = none ∧ N1 a = none := fun a ha => h4 a (List.mem_append_left _ ha)
    have hA : ∀ a, H1 a = none → A a = none := fun a e => R1.sA.free e
    have jn : ∀ a, N a = none → N1 a = none → join N N1 a = none := fun a e1 e2 => by
      cases q : join N N1 a with
      | none => rfl
      | some o =>
        rcases join_of q with z | z
        · rw [e1] at z; cases z
        · rw [e2] at z; cases z
    have j1' := j1.frame (F' := join F (join N N1)) (N' := join N N1) (H' := H') sF sN fun a ha => same_at C.sA (j1.tracked a ha)
    refine ⟨join F (join N N1), join N N1, ⟨sN, sF, fun a o h => join_of h⟩, ⟨⟨fp0, g1 ++ [], j1', .cons (h.noF (join_r cons) ho fun _ _ => rfl) .nil, ?_, fun a ha => ?_⟩, R2.sA, fun a o h => (join_of h).elim (R2.sN a o) (C.sN a o), fun a o h => (join_of h).elim (R.nA a o) fun h => hA a (hn a o h), join_r cons2, fun a o h => ?_, R.pin⟩⟩
    · rw [List.append_nil]
      refine List.nodup_append.mpr ⟨j3, (List.nodup_append.mp h3).1, fun a ha b hb e => ?_⟩
      subst e
      obtain ⟨o, e⟩ := j1.tracked a ha
      rw [(hg1 a hb).1] at e; cases e
    · rw [List.append_nil] at ha
      rcases List.mem_append.mp ha with z | z
      · refine ⟨(j4 a z).1, jn a (j4 a z).2 ?_⟩
        cases q : N1 a with
        | none => rfl
        | some o =>
          obtain ⟨u, e⟩ := j1.tracked a z
          rw [hn a o q] at e; cases e
      · have q := (hg1 a z).1
        exact ⟨hA a q, jn a (R1.sN.free q) (hg1 a z).2⟩
    · rcases join_of h with z | z
      · exact (R.fA a o z).imp id fun z => sN a o z
      · exact .inr z
def cE (g : Fn) : List Dt → Option Et := fun ds => match g (ds.map .o) with | some (.ok r _) => if own r = true then some r else none | _ => none
def eN (s : List Dt → Option Et) (f : En → Option (List Dt)) : En → Option Et := fun ρ => (f ρ).bind s
/-- a def of the module -/
structure CalR (P : Program) (w : World) (K : PySem.W.Frag) (mg : Str → Option Value) (base : Heap) (CX : CXT) (k : Nat) (x : Str) (g : Fn) : Prop where
  ex : ∃ f fd ps, FnOk P w K mg base CX k f fd ps (spM K g) ∧ mg x = some (.ref f) ∧ PySem.W.keepIn K (.ref f) = true ∧ Binds K fd ps []
/-- CX is silent for what is never wished -/
def Mute (P : Program) (w : World) (CX : CXT) : Prop := ∀ l H s u s', ¬ CX l H s E0 u s'
theorem mute0 {P : Program} {w : World} : Mute P w CX0 := fun _ _ _ _ _ h => h
theorem muteX {P : Program} {w : World} : Mute P w (L2.CX P w) := fun _ _ _ _ _ h => by
  obtain ⟨_, _, _, _, _, _, _, _, _, _, _, _, z⟩ := h
  exact z.elim
theorem Mute.passes {CX : CXT} (m : Mute X.prog X.w CX) : Passes CX X E0 := fun _ _ _ _ _ _ _ h => (m _ _ _ _ _ h).elim
variable {CX : CXT} {k j : Nat} {x : Str} {gF : Fn}
theorem tCall_p {es : List Expr} {f : En → Option (List Dt)} (σ : L2.St) (H : Hp) (Q : VK) (q : tP K (pN (cP gF) f) σ H Q) : tCall (spM K gF) [] E0 (tPs K f) σ H Q :=
  argsP q fun ds d vs Z H2 e s d1 k => by
    rw [List.append_nil]
    unfold cP at e
    split at e
    · rename_i r es' he
      cases e
      exact ⟨H2, Z, none_, _, _, rp_args s d1, he, fun v H' F' N' st R => by
        obtain ⟨Z', g, dv⟩ := rp_back s st R
        exact k v H' Z' g dv⟩
    · cases e
theorem q_call {p : Pos} {es : List Expr} {f : En → Option (List Dt)} (c : CalR X.prog X.w X.K X.mg X.base CX k x gF) (m : Mute X.prog X.w CX) (hr : Room j X.A) (ha : QPs X (e :: es) f) (hk : k ≤ j := by decide) (hg : Gl X x := by rfl) (hdb : (x == ("__debug__" : Str)) = false := by decide)
    (he : starEach (e :: es) X.env = (false, eval e X.env) :: starEach es X.env := by rfl) (hpl : (backTo pos (starEach es X.env)).any (·.1) = false := by rfl) : QP X (.Call (.Name x p) (e :: es) [] pos) (pN (cP gF) f) := by
  obtain ⟨fa, fd, ps, F, hm, kp, bn⟩ := c.ex
  exact (pe_call F (hr.mono hk) hg hm kp bn .nil m.passes ha hdb he hpl).weak (tCall_p (es := es))
theorem e_call {p : Pos} {es : List Expr} {f : En → Option (List Dt)} (c : CalR X.prog X.w X.K X.mg X.base CX k x gF) (m : Mute X.prog X.w CX) (hr : Room j X.A) (ha : QPs X (e :: es) f) (hk : k ≤ j := by decide) (hg : Gl X x := by rfl) (hdb : (x == ("__debug__" : Str)) = false := by decide)
    (he : starEach (e :: es) X.env = (false, eval e X.env) :: starEach es X.env := by rfl) (hpl : (backTo pos (starEach es X.env)).any (·.1) = false := by rfl) : QE X pn (.Call (.Name x p) (e :: es) [] pos) (eN (cE gF) f) := by
  obtain ⟨fa, fd, ps, F, hm, kp, bn⟩ := c.ex
  refine (pe_call F (hr.mono hk) hg hm kp bn .nil m.passes ha hdb he hpl).weak fun σ H Q ⟨A, F, N, ρ, r, R, hf, kk⟩ => ?_
  obtain ⟨ds, hd, hf⟩ := bindS hf
  unfold cE at hf
  split at hf
  · rename_i r' es' he
    split at hf
    · rename_i ho
      cases hf
      refine ⟨H, ρ, ds, R.rv, hd, fun vs H1 Z1 g t => ?_⟩
      show spM X.K gF (vs ++ []) H1 Q E0
      rw [List.append_nil]
      refine ⟨H1, Z1, none_, _, _, rp_args g.s t, he, fun v H' F' N' st C => ?_⟩
      obtain ⟨F2, N2, st2, R2⟩ := rp_adopt R g.h st C ho
      exact kk v H' F2 N2 (g.h.trans C.sA) st2 R2
    · cases hf
  · cases hf
end Qs
namespace Qs
open PySem PySem.Spec PyProof.Rows L2
variable [CTab]
variable {X : Cx} {K : PySem.W.Frag} {pn : List (Nat × V)} {W : WX} {tg a b c e : Expr} {pos p2 : Pos}
/-! ### values that may change what is owned, or raise -/
inductive Rz | ok (e : Et) (ρ : En) | ex (c : Nat) (i : Int) (ρ : En)
abbrev Mm := En → Option Rz
abbrev XAt (H : Hp) (d : Addr) (i : Int) : Prop := H d = some (.xd [("at", .int i)])
def tM (K : PySem.W.Frag) (pn : List (Nat × V)) (W : WX) (f : Mm) : TE := fun σ H Q => ∃ A F N ρ z, Rp K A F N H pn σ ρ [] [] ∧ f ρ = some z ∧ ∀ F' N' H', Stp F N F' N' → match z with
  | .ok e ρ' => ∀ v, Rp K A F' N' H' pn σ ρ' [v] [e] → Q v H'
  | .ex C i ρ' => ∀ d, Rp K A F' N' H' pn σ ρ' [] [] → XAt H' d i → W (.ref (CTab.addr C)) (some d) σ H'
abbrev QM (X : Cx) (pn : List (Nat × V)) (W : WX) (e : Expr) (f : Mm) : Prop := PE X e (tM X.K pn W f)
def mE (f : En → Option Et) : Mm := fun ρ => (f ρ).map fun e => .ok e ρ
theorem m_e {f : En → Option Et} (h : QE X pn e f) : QM X pn W e (mE f) := h.weak fun σ H Q ⟨A, F, N, ρ, z, r, hf, k⟩ => by
  obtain ⟨e, he, rfl⟩ := mapS hf
  exact ⟨A, F, N, ρ, e, r, he, fun v H' F' N' s st r' => k F' N' H' st v r'⟩
/-- a name is read, its thing frozen where it stands -/
def mV (i : Nat) : Mm := fun ρ => match ρ[i]? with | some (some e) => some (.ok (frz e) (ρ.set i (some (frz e)))) | _ => none
theorem m_var {i : Nat} {x : Str} (hN : X.N[i]? = some x := by rfl) (hv : Vis X.env.scope x := by first | exact Or.inl rfl | exact Or.inr (Or.inl rfl) | exact Or.inr (Or.inr rfl)) (hd : (x == ("__debug__" : Str)) = false := by decide) (hcd : (x == ("__classdict__" : Str)) = false := by decide) : QM X pn W (.Name x pos) (mV i) :=
  (pe_var hN hv hd hcd).weak fun σ H Q ⟨A, F, N, ρ, z, r, hf, k⟩ => by
    unfold mV at hf
    split at hf
    · rename_i e he
      cases hf
      obtain ⟨v, F', N', hv, st, r'⟩ := r.load he
      exact ⟨v, hv, k F' N' H st v r'⟩
    · cases hf
/-! ### statements -/
inductive Out | nx (ρ : En) | rt (e : Et) (ρ : En) | bk (ρ : En) | ct (ρ : En) | ex (c : Nat) (i : Int) (ρ : En)
abbrev Sm := En → Option Out
def Post (K : PySem.W.Frag) (pn : List (Nat × V)) (W : WX) (A F N : Hp) (D : Ends) (o : Out) : Prop := ∀ F' N' H' σ', Stp F N F' N' → match o with
  | .nx ρ' => Rp K A F' N' H' pn σ' ρ' [] [] → D.nx σ' H'
  | .rt e ρ' => ∀ v, Rp K A F' N' H' pn σ' ρ' [v] [e] → D.rt v H'
  | .bk ρ' => Rp K A F' N' H' pn σ' ρ' [] [] → D.bk σ' H'
  | .ct ρ' => Rp K A F' N' H' pn σ' ρ' [] [] → D.ct σ' H'
  | .ex C i ρ' => ∀ d, Rp K A F' N' H' pn σ' ρ' [] [] → XAt H' d i → W (.ref (CTab.addr C)) (some d) σ' H'
theorem Post.step {A F N F1 N1 : Hp} {D : Ends} {o : Out} (p : Post K pn W A F N D o) (st : Stp F N F1 N1) : Post K pn W A F1 N1 D o := fun F' N' H' σ' s => p F' N' H' σ' (st.trans s)
def tS (K : PySem.W.Frag) (pn : List (Nat × V)) (W : WX) (f : Sm) : TS := fun D σ H => ∃ A F N ρ o, Rp K A F N H pn σ ρ [] [] ∧ f ρ = some o ∧ Post K pn W A F N D o
abbrev QS (X : Cx) (pn : List (Nat × V)) (W : WX) (st : Stmt) (f : Sm) : Prop := PS X st (tS X.K pn W f)
abbrev QSs (X : Cx) (pn : List (Nat × V)) (W : WX) (st : List Stmt) (f : Sm) : Prop := PSs X st (tS X.K pn W f)
def sNil : Sm := fun ρ => some (.nx ρ)
def sSeq (f g : Sm) : Sm := fun ρ => (f ρ).bind fun o => match o with | .nx ρ' => g ρ' | o => some o
def sIf (c : En → Option Bool) (f g : Sm) : Sm := fun ρ => (c ρ).bind fun b => if b = true then f ρ else g ρ
def sRet (m : Mm) : Sm := fun ρ => (m ρ).map fun z => match z with | .ok e ρ' => .rt e ρ' | .ex C i ρ' => .ex C i ρ'
def sRetN : Sm := fun ρ => some (.rt (.n .non) ρ)
def sDrop (m : Mm) : Sm := fun ρ => (m ρ).map fun z => match z with | .ok _ ρ' => .nx ρ' | .ex C i ρ' => .ex C i ρ'
def sSet (i : Nat) (m : Mm) : Sm := fun ρ => (m ρ).bind fun z => match z with | .ok e ρ' => if i < ρ'.length then some (.nx (ρ'.set i (some e))) else none | .ex C i ρ' => some (.ex C i ρ')
def sBrk : Sm := fun ρ => some (.bk ρ)
def sCont : Sm := fun ρ => some (.ct ρ)
variable {f g : Sm} {st : Stmt} {rest : List Stmt} {m : Mm}
theorem ss_nil : QSs X pn W [] sNil := pss_nil.weak fun D σ H ⟨A, F, N, ρ, o, r, hf, p⟩ => by
  cases hf
  exact p F N H σ Stp.refl r
theorem ss_cons (h1 : QS X pn W st f) (h2 : QSs X pn W rest g) : QSs X pn W (st :: rest) (sSeq f g) := (pss_cons h1 h2).weak fun D σ H ⟨A, F, N, ρ, o, r, hf, p⟩ => by
  obtain ⟨o1, h1, hf⟩ := bindS hf
  refine ⟨A, F, N, ρ, o1, r, h1, fun F' N' H' σ' st => ?_⟩
  cases o1 with
  | nx ρ1 => exact fun r' => ⟨A, F', N', ρ1, o, r', hf, p.step st⟩
  | rt e ρ1 => cases hf; exact p F' N' H' σ' st
  | bk ρ1 => cases hf; exact p F' N' H' σ' st
  | ct ρ1 => cases hf; exact p F' N' H' σ' st
  | ex C i ρ1 => cases hf; exact p F' N' H' σ' st
theorem ss_one (h1 : QS X pn W st f) : QSs X pn W [st] f := pss_one h1
theorem s_if {bd el : List Stmt} {t : En → Option Bool} (hc : QB X c t) (ha : QSs X pn W bd f) (hb : QSs X pn W el g) : QS X pn W (.If c bd el pos) (sIf t f g) := (ps_if hc ha hb).weak fun D σ H ⟨A, F, N, ρ, o, r, hf, p⟩ => by
  obtain ⟨b, hb, hf⟩ := bindS hf
  refine ⟨H, ρ, b, r.rv, hb, fun H' Z' g => ?_⟩
  cases b with
  | true => exact ⟨A, F, N, ρ, o, r.mono g.h, hf, p⟩
  | false => exact ⟨A, F, N, ρ, o, r.mono g.h, hf, p⟩
theorem s_ret (h : QM X pn W e m) : QS X pn W (.Return (some e) pos) (sRet m) := (ps_ret h).weak fun D σ H ⟨A, F, N, ρ, o, r, hf, p⟩ => by
  obtain ⟨z, hz, rfl⟩ := mapS hf
  refine ⟨A, F, N, ρ, z, r, hz, fun F' N' H' st => ?_⟩
  cases z with
  | ok e ρ' => exact fun v r' => p F' N' H' σ st v r'
  | ex C i ρ' => exact fun d r' x => p F' N' H' σ st d r' x
theorem s_retN : QS X pn W (.Return none pos) sRetN := ps_retN.weak fun D σ H ⟨A, F, N, ρ, o, r, hf, p⟩ => by
  cases hf
  exact p F N H σ Stp.refl .non (r.temp .non)
theorem s_drop (h : QM X pn W e m) (hs : swapsWith e none pos.line X.env = pure false := by rfl) : QS X pn W (.Expr e pos) (sDrop m) := (ps_expr h hs).weak fun D σ H ⟨A, F, N, ρ, o, r, hf, p⟩ => by
  obtain ⟨z, hz, rfl⟩ := mapS hf
  refine ⟨A, F, N, ρ, z, r, hz, fun F' N' H' st => ?_⟩
  cases z with
  | ok e ρ' => exact fun v r' => p F' N' H' σ st r'.drop
  | ex C i ρ' => exact fun d r' x => p F' N' H' σ st d r' x
theorem s_doc {x j pos'} : QS X pn W (.Expr (.Constant (.str x) j pos) pos') sNil := ps_doc.weak fun D σ H ⟨A, F, N, ρ, o, r, hf, p⟩ => by
  cases hf
  exact p F N H σ Stp.refl r
theorem s_pass : QS X pn W (.Pass pos) sNil := ps_pass.weak fun D σ H ⟨A, F, N, ρ, o, r, hf, p⟩ => by
  cases hf
  exact p F N H σ Stp.refl r
theorem s_break : QS X pn W (.Break pos) sBrk := ps_break.weak fun D σ H ⟨A, F, N, ρ, o, r, hf, p⟩ => by
  cases hf
  exact p F N H σ Stp.refl r
theorem s_cont : QS X pn W (.Continue pos) sCont := ps_continue.weak fun D σ H ⟨A, F, N, ρ, o, r, hf, p⟩ => by
  cases hf
  exact p F N H σ Stp.refl r
abbrev NoPin (pn : List (Nat × V)) (i : Nat) : Prop := ∀ p ∈ pn, p.1 ≠ i
theorem s_set {i : Nat} {x : Str} {pos' : Pos} (he : QM X pn W e m) (hN : X.N.Nodup) (hp : NoPin pn i := by intro p h; simp at h) (hi : X.N[i]? = some x := by rfl) (hx : Loc X.env.scope x := by first | exact Or.inl rfl | exact Or.inr rfl) (hs : swapsWith e (some (.Name x pos')) pos.line X.env = pure false := by rfl)
    (hf : X.fn x = true ∨ X.env.scope.names.lookup x = some .local := by first | exact .inl rfl | exact .inr rfl | assumption) : QS X pn W (.Assign [.Name x pos'] e pos) (sSet i m) := (ps_set hN hi hx he hs hf).weak fun D σ H ⟨A, F, N, ρ, o, r, hf, p⟩ => by
  obtain ⟨z, hz, hf⟩ := bindS hf
  refine ⟨A, F, N, ρ, z, r, hz, fun F' N' H' st => ?_⟩
  cases z with
  | ok e ρ' =>
    intro v r'
    have hf : (if i < ρ'.length then some (Out.nx (ρ'.set i (some e))) else none) = some o := hf
    split at hf
    · rename_i hl
      cases hf
      exact p F' N' H' _ st (r'.store hl hp)
    · cases hf
  | ex C i ρ' =>
    cases hf
    exact fun d r' x => p F' N' H' σ st d r' x
/-! ### while -/
def whileR (c : En → Option Bool) (b : Sm) : Nat → Sm
  | 0, _ => none
  | n + 1, ρ => (c ρ).bind fun t => if t = true then (b ρ).bind fun o => match o with
    | .nx ρ' => whileR c b n ρ' | .ct ρ' => whileR c b n ρ' | .bk ρ' => some (.nx ρ') | o => some o else some (.nx ρ)
theorem whileR_mono {c : En → Option Bool} {b : Sm} : ∀ {n : Nat} {ρ : En} {o : Out} (k : Nat), whileR c b n ρ = some o → whileR c b (n + k) ρ = some o
  | 0, _, _, _, h => by cases h
  | n + 1, ρ, o, k, h => by
    rw [Nat.add_right_comm]
    unfold whileR at h ⊢
    obtain ⟨t, ht, h⟩ := bindS h
    rw [ht]
    show (if t = true then _ else _) = _
    cases t with
    | false => exact h
    | true =>
      rw [if_pos rfl] at h ⊢
      obtain ⟨o1, ho, h⟩ := bindS h
      rw [ho]
      cases o1 with
      | nx ρ' => exact whileR_mono k h
      | ct ρ' => exact whileR_mono k h
      | bk ρ' => exact h
      | rt e ρ' => exact h
      | ex C i ρ' => exact h
open Classical in
noncomputable def sWhile (c : En → Option Bool) (b : Sm) : Sm := fun ρ => if h : ∃ n o, whileR c b n ρ = some o then whileR c b (choose h) ρ else none
theorem sWhile_of {c : En → Option Bool} {b : Sm} {n : Nat} {ρ : En} {o : Out} (h : whileR c b n ρ = some o) : sWhile c b ρ = some o := by
  have hx : ∃ n o, whileR c b n ρ = some o := ⟨n, o, h⟩
  unfold sWhile
  rw [dif_pos hx]
  obtain ⟨o', h'⟩ := Classical.choose_spec hx
  have a1 := whileR_mono (Classical.choose hx) h
  have a2 := whileR_mono n h'
  rw [Nat.add_comm] at a2
  rw [a1] at a2
  rw [h']
  exact a2.symm
theorem sWhile_ex {c : En → Option Bool} {b : Sm} {ρ : En} {o : Out} (h : sWhile c b ρ = some o) : ∃ n, whileR c b n ρ = some o := by
  unfold sWhile at h
  split at h
  · exact ⟨_, h⟩
  · cases h
theorem s_while {bd : List Stmt} {t : En → Option Bool} (hp : PassesOwn (model X.prog X.w) X.A X.env X.xe) (hc : QB X c t) (hb : QSs X pn W bd f) : QS X pn W (.While c bd [] pos) (sWhile t f) := (ps_while hp hc hb).weak fun D σ H ⟨A, F, N, ρ, o, r, hf, p⟩ => by
  obtain ⟨n, hn⟩ := sWhile_ex hf
  refine ⟨fun n σ H => ∃ F' N' ρ, Stp F N F' N' ∧ Rp X.K A F' N' H pn σ ρ [] [] ∧ whileR t f n ρ = some o, ⟨n, F, N, ρ, Stp.refl, r, hn⟩, ?_⟩
  rintro n σ H ⟨F', N', ρ, st, r, h⟩
  cases n with
  | zero => cases h
  | succ n =>
    unfold whileR at h
    obtain ⟨b, hb, h⟩ := bindS h
    refine ⟨H, ρ, b, r.rv, hb, fun H1 Z1 g => ?_⟩
    cases b with
    | false =>
      cases h
      exact p F' N' H1 σ st (r.mono g.h)
    | true =>
      rw [if_pos rfl] at h ⊢
      obtain ⟨o1, ho, h⟩ := bindS h
      refine ⟨fun σ' H' => ∃ F' N' ρ, Stp F N F' N' ∧ Rp X.K A F' N' H' pn σ' ρ [] [] ∧ whileR t f n ρ = some o, fun σ' H' h => ⟨n, Nat.lt_succ_self _, h⟩, A, F', N', ρ, o1, r.mono g.h, ho, fun F2 N2 H2 σ2 st2 => ?_⟩
      cases o1 with
      | nx ρ' => exact fun r' => ⟨F2, N2, ρ', st.trans st2, r', h⟩
      | ct ρ' => exact fun r' => ⟨F2, N2, ρ', st.trans st2, r', h⟩
      | bk ρ' => cases h; exact p F2 N2 H2 σ2 (st.trans st2)
      | rt e ρ' => cases h; exact p F2 N2 H2 σ2 (st.trans st2)
      | ex C i ρ' => cases h; exact p F2 N2 H2 σ2 (st.trans st2)
/-! ### for -/
/-- as a leaf: scalars are nobody's -/
def tGS (K : PySem.W.Frag) (pn : List (Nat × V)) (b : Dt → En → Option En) : TG := fun v σ H Q => ∃ A F N ρ d ρ', Rp K A F N H pn σ ρ [] [] ∧ Dat K F v d ∧ b d ρ = some ρ' ∧ ∀ σ', Rp K A F N H pn σ' ρ' [] [] → Q σ' H
def tGSs (K : PySem.W.Frag) (pn : List (Nat × V)) (b : List Dt → En → Option En) : TGs := fun xs σ H Q => ∃ A F N ρ ds ρ', Rp K A F N H pn σ ρ [] [] ∧ Dats K F xs ds ∧ b ds ρ = some ρ' ∧ ∀ σ', Rp K A F N H pn σ' ρ' [] [] → Q σ' H
abbrev QGS (X : Cx) (pn : List (Nat × V)) (tg : Expr) (b : Dt → En → Option En) : Prop := PG X tg (tGS X.K pn b)
abbrev QGSs (X : Cx) (pn : List (Nat × V)) (tgs : List Expr) (b : List Dt → En → Option En) : Prop := PGs X tgs (tGSs X.K pn b)
def bN (i : Nat) : Dt → En → Option En := fun d ρ => if i < ρ.length then some (ρ.set i (some (lf d))) else none
theorem gs_name {i : Nat} {x : Str} (hN : X.N.Nodup) (hp : NoPin pn i := by intro p h; simp at h) (hi : X.N[i]? = some x := by rfl) (hx : Loc X.env.scope x := by first | exact Or.inl rfl | exact Or.inr rfl) (hf : X.fn x = true ∨ X.env.scope.names.lookup x = some .local := by first | exact .inl rfl | exact .inr rfl | assumption) : QGS X pn (.Name x pos) (bN i) :=
  (pg_name hN hi hx hf).weak fun v σ H Q ⟨A, F, N, ρ, d, ρ', r, dv, hb, k⟩ => by
    unfold bN at hb
    split at hb
    · rename_i hl
      cases hb
      exact k _ ((r.leaf (lf_own dv)).store hl hp)
    · cases hb
theorem gss_nil : QGSs X pn [] gsNil := pgs_nil.weak fun xs σ H Q ⟨A, F, N, ρ, ds, ρ', r, dv, hb, k⟩ => by
  unfold gsNil at hb
  split at hb
  · cases hb
    cases dv
    exact ⟨rfl, k σ r⟩
  · cases hb
theorem gss_cons {t : Expr} {ts : List Expr} {b : Dt → En → Option En} {bs : List Dt → En → Option En} (h1 : QGS X pn t b) (h2 : QGSs X pn ts bs) (hs : (assignEach (t :: ts) X.env).map (·.2) = assign t X.env :: (assignEach ts X.env).map (·.2) := by rfl) : QGSs X pn (t :: ts) (gsCons b bs) :=
  (pgs_cons h1 h2 hs).weak fun xs σ H Q ⟨A, F, N, ρ, ds, ρ', r, dv, hb, k⟩ => by
    unfold gsCons at hb
    split at hb
    · obtain ⟨ρ1, e1, e2⟩ := bindS hb
      cases dv with
      | cons d1 t => exact ⟨_, _, rfl, A, F, N, ρ, _, ρ1, r, d1, e1, fun σ1 r1 => ⟨A, F, N, ρ1, _, ρ', r1, t, e2, k⟩⟩
    · cases hb
theorem gss_len {ts : List (Dt → En → Option En)} : ∀ {ds : List Dt} {ρ ρ' : En}, ts.foldr gsCons gsNil ds ρ = some ρ' → ds.length = ts.length := by
  induction ts with
  | nil =>
    intro ds ρ ρ' h
    cases ds with
    | nil => rfl
    | cons _ _ => cases h
  | cons t ts ih =>
    intro ds ρ ρ' h
    cases ds with
    | nil => cases h
    | cons d ds =>
      obtain ⟨ρ1, _, h2⟩ := bindS (show (t d ρ).bind (ts.foldr gsCons gsNil ds) = some ρ' from h)
      simp [ih h2]
theorem gs_tup {ts : List Expr} {j : Nat} {bl : List (Dt → En → Option En)} (hc : X.calm = true) (h : QGSs X pn ts (bl.foldr gsCons gsNil)) (hn : (assignEach ts X.env).length = bl.length := by rfl) (hst : (assignEach ts X.env).findIdx? (·.1) = none := by rfl) : QGS X pn (.Tuple ts j pos) (gT (bl.foldr gsCons gsNil)) :=
  (pg_tup hc h hn hst).weak fun v σ H Q ⟨A, F, N, ρ, d, ρ', r, dv, hb', k⟩ => by
    unfold gT at hb'
    split at hb'
    · cases dv with
      | tup h t => exact ⟨_, _, rfl, Same.sqt r.sF h, by rw [t.length]; exact gss_len hb', A, F, N, ρ, _, ρ', r, t, hb', k⟩
    · cases hb'
def forL (b : Dt → En → Option En) (body : Sm) : List Dt → Sm
  | [], ρ => some (.nx ρ)
  | d :: ds, ρ => (b d ρ).bind fun ρ1 => (body ρ1).bind fun o => match o with
    | .nx ρ2 => forL b body ds ρ2 | .ct ρ2 => forL b body ds ρ2 | .bk ρ2 => some (.nx ρ2) | o => some o
theorem for_rd {b : Dt → En → Option En} {A F N H : Hp} {D : Ends} {σ : L2.St} {ρ : En} {o : Out} {ds : List Dt} {J : It} {G : Hp} (wk : Wk K J G ds) (hG : ∀ {F' N' H' : Hp} {σ' : L2.St} {ρ' : En}, Stp F N F' N' → Rp K A F' N' H' pn σ' ρ' [] [] → Same G H') (hGF : ∀ (F' N' H' U : Hp) (σ' : L2.St) (ρ' : En) (x : V) (d : Dt), Stp F N F' N' → Rp K A F' N' H' pn σ' ρ' [] [] → (∀ a o, U a = some o → G a = some o ∨ H' a = none) → Same G U → ∀ H2, Same U H2 → Same H' H2 → Dat K U x d → ∃ F2 N2, Stp F' N' F2 N2 ∧ Rp K A F2 N2 H2 pn σ' ρ' [] [] ∧ Dat K F2 x d)
    (r : Rp K A F N H pn σ ρ [] []) (hf : forL b f ds ρ = some o) (p : Post K pn W A F N D o) :
    ∃ W' : Nat → Nat → L2.St → Hp → Prop, (∃ m, W' 0 m σ H) ∧ ∀ i m σ H, W' i m σ H →
      (J.stop i H ∧ D.nx σ H) ∨ (J.go i H ∧ ∃ Nx : L2.St → Hp → Prop, (∀ σ' H', Nx σ' H' → ∃ m', m' < m ∧ W' (i + 1) m' σ' H') ∧ ∀ x H', J.yld i H x H' → tGS K pn b x σ H' fun σ2 H2 => tS K pn W f { D with nx := Nx, ct := Nx, bk := D.nx } σ2 H2) := by
  refine ⟨fun i m σ H => m = ds.length - i ∧ i ≤ ds.length ∧ ∃ F' N' ρ, Stp F N F' N' ∧ Rp K A F' N' H pn σ ρ [] [] ∧ forL b f (ds.drop i) ρ = some o, ⟨ds.length, by simp, Nat.zero_le _, F, N, ρ, Stp.refl, r, by simpa using hf⟩, ?_⟩
  rintro i m σ H ⟨rfl, hi, F', N', ρ, st, r, h⟩
  by_cases hlt : i < ds.length
  · refine .inr ⟨(wk.go i H (hG st r) hlt).1, fun σ' H' => ∃ F' N' ρ, Stp F N F' N' ∧ Rp K A F' N' H' pn σ' ρ [] [] ∧ forL b f (ds.drop (i + 1)) ρ = some o, fun σ' H' h => ⟨ds.length - (i + 1), by omega, rfl, hlt, h⟩, fun x H' y => ?_⟩
    obtain ⟨sHH, d, U, hd, sU, sUH, nU, dx⟩ := (wk.go i H (hG st r) hlt).2 x H' y
    have ed : d = ds[i] := by
      rw [List.getElem?_eq_getElem hlt] at hd
      exact (Option.some.inj hd).symm
    rw [List.drop_eq_getElem_cons hlt, ← ed] at h
    unfold forL at h
    obtain ⟨ρ1, hb, h⟩ := bindS h
    obtain ⟨o1, ho, h⟩ := bindS h
    obtain ⟨F2, N2, st2, r2, dx2⟩ := hGF F' N' H U σ ρ x d st r nU sU H' sUH sHH dx
    refine ⟨A, F2, N2, ρ, d, ρ1, r2, dx2, hb, fun σ1 r1 => ⟨A, F2, N2, ρ1, o1, r1, ho, fun F3 N3 H3 σ3 st3 => ?_⟩⟩
    have st' := (st.trans st2).trans st3
    cases o1 with
    | nx ρ' => exact fun r' => ⟨F3, N3, ρ', st', r', h⟩
    | ct ρ' => exact fun r' => ⟨F3, N3, ρ', st', r', h⟩
    | bk ρ' => cases h; exact p F3 N3 H3 σ3 st'
    | rt e ρ' => cases h; exact p F3 N3 H3 σ3 st'
    | ex C i ρ' => cases h; exact p F3 N3 H3 σ3 st'
  · have ei : i = ds.length := by omega
    subst ei
    rw [List.drop_length] at h
    cases h
    exact .inl ⟨wk.stop _ H (hG st r) (Nat.le_refl _), p F' N' H σ st r⟩
/-- new things are taken into N -/
theorem Rp.take {A F N H H2 U : Hp} {σ : L2.St} {ρ : En} {vs : List V} {es : List Et} (r : Rp K A F N H pn σ ρ vs es) (s : Same H H2) (sU : Same U H2) (nU : ∀ a o, U a = some o → F a = some o ∨ H a = none) : ∃ F2 N2, Stp F N F2 N2 ∧ Rp K A F2 N2 H2 pn σ ρ vs es ∧ Same U F2 := by
  have r2 := r.mono s
  obtain ⟨fp, gp, h1, h2, h3, h4⟩ := r.own
  obtain ⟨fp', gp', k1, k2, k3, k4⟩ := r2.own
  let N2 : Hp := fun a => if H a = none then U a else N a
  have e1 : ∀ a, H a = none → N2 a = U a := fun a h => if_pos h
  have e2 : ∀ a, H a ≠ none → N2 a = N a := fun a h => if_neg h
  have hs : ∀ {a o}, H a = some o → H a ≠ none := fun e h => by rw [e] at h; cases h
  have sN : Same N N2 := fun a o e => by rw [e2 a (hs (r.sN a o e))]; exact e
  have sNH : Same N2 H2 := fun a o e => by
    by_cases h : H a = none
    · rw [e1 a h] at e; exact sU a o e
    · rw [e2 a h] at e; exact s a o (r.sN a o e)
  have cons : ∀ a o u, F a = some o → N2 a = some u → o = u := fun a o u p q => by
    have := s a o (r.sF a o p)
    rw [sNH a u q] at this
    exact (Option.some.inj this).symm
  have sF : Same F (join F N2) := join_l
  have f1 := h1.frame (F' := join F N2) (N' := N2) (H' := H2) sF sN fun a ha => same_at s (h1.tracked a ha)
  have f2 := h2.frame (F' := join F N2) (N' := N2) (H' := H2) sF sN fun a ha => same_at s (h2.tracked a ha)
  refine ⟨join F N2, N2, ⟨sN, sF, fun a o h => join_of h⟩, ⟨⟨fp, gp, f1, f2, h3, fun a ha => ⟨(h4 a ha).1, ?_⟩⟩, r2.sA, sNH, fun a o e => ?_, join_r cons, fun a o h => ?_, r.pin⟩, fun a o h => ?_⟩
  · have ht : ∃ o, H a = some o := (List.mem_append.mp ha).elim (h1.tracked a) (h2.tracked a)
    obtain ⟨o, e⟩ := ht
    rw [e2 a (hs e)]
    exact (h4 a ha).2
  · by_cases h : H a = none
    · exact r.sA.free h
    · rw [e2 a h] at e; exact r.nA a o e
  · rcases join_of h with z | z
    · exact (r.fA a o z).imp id (sN a o)
    · exact .inr z
  · rcases nU a o h with z | z
    · exact sF a o z
    · exact join_r cons a o (by rw [e1 a z]; exact h)
/-- a range is walked whatever becomes of the heap -/
def tIr (K : PySem.W.Frag) (f : En → Option (List Dt)) : TI := fun σ H R => ∃ Z ρ ds, Rv K Z H σ ρ ∧ f ρ = some ds ∧ ∀ J H' Z', Gr Z H Z' H' → (∀ G, Wk K J G ds) → (∀ d ∈ ds, sc d = true) → R J H'
abbrev QR (X : Cx) (tg iter : Expr) (f : En → Option (List Dt)) : Prop := PI X tg iter (tIr X.K f)
theorem rgD_sc {lo c : Int} {n : Nat} : ∀ d ∈ rgD lo c n, sc d = true := fun d h => by
  unfold rgD at h
  obtain ⟨i, _, rfl⟩ := List.mem_map.mp h
  rfl
theorem r_range1 {p : Pos} {f : En → Option (List Dt)} (hm : X.mg "range" = none) (ha : QPs X [a] f) (hg : Gl X "range" := by rfl) (hs : starEach [a] X.env = [(false, eval a X.env)] := by rfl) : QR X tg (.Call (.Name "range" p) [a] [] pos) (iN rg1 f) :=
  (pi_range1 hg hm ha hs).weak fun σ H R ⟨Z, ρ, ds, r, hf, k⟩ => by
    obtain ⟨x, hx, hf⟩ := bindS hf
    refine ⟨Z, ρ, x, r, hx, fun vs H' Z' g dv => ?_⟩
    unfold rg1 at hf
    split at hf
    · split at hf
      · rename_i hl
        cases hf
        cases dv with
        | cons d1 t =>
          cases t
          cases d1
          exact ⟨_, rfl, hl.1, hl.2, k _ H' Z' g (fun G => wk_int (fun i H h => h) (fun i H x H' h => ⟨h.1, by rw [h.2]; simp⟩) fun i H h => h) rgD_sc⟩
      · cases hf
    · cases hf
theorem r_range2 {p : Pos} {f : En → Option (List Dt)} (hm : X.mg "range" = none) (ha : QPs X [a, b] f) (hg : Gl X "range" := by rfl) (hs : starEach [a, b] X.env = [(false, eval a X.env), (false, eval b X.env)] := by rfl) (hs2 : starEach [b] X.env = [(false, eval b X.env)] := by rfl) : QR X tg (.Call (.Name "range" p) [a, b] [] pos) (iN rg2 f) :=
  (pi_range2 hg hm ha hs hs2).weak fun σ H R ⟨Z, ρ, ds, r, hf, k⟩ => by
    obtain ⟨x, hx, hf⟩ := bindS hf
    refine ⟨Z, ρ, x, r, hx, fun vs H' Z' g dv => ?_⟩
    unfold rg2 at hf
    split at hf
    · split at hf
      · rename_i hl
        cases hf
        cases dv with
        | cons d1 t =>
          cases t with
          | cons d2 t =>
            cases t
            cases d1
            cases d2
            exact ⟨_, _, rfl, ⟨hl.1.1, hl.1.2, hl.2.1, hl.2.2⟩, k _ H' Z' g (fun G => wk_int (fun i H h => h) (fun i H x H' h => ⟨h.1, by rw [h.2, Int.mul_one]⟩) fun i H h => h) rgD_sc⟩
      · cases hf
    · cases hf
theorem r_range3 {p : Pos} {f : En → Option (List Dt)} (hm : X.mg "range" = none) (ha : QPs X [a, b, c] f) (hg : Gl X "range" := by rfl) (hs : starEach [a, b, c] X.env = (false, eval a X.env) :: starEach [b, c] X.env := by rfl) (hs2 : (backTo pos (starEach [b, c] X.env)).any (·.1) = false := by rfl) :
    QR X tg (.Call (.Name "range" p) [a, b, c] [] pos) (iN rg3 f) :=
  (pi_range3 hg hm ha hs hs2).weak fun σ H R ⟨Z, ρ, ds, r, hf, k⟩ => by
    obtain ⟨x, hx, hf⟩ := bindS hf
    refine ⟨Z, ρ, x, r, hx, fun vs H' Z' g dv => ?_⟩
    unfold rg3 at hf
    split at hf
    · split at hf
      · rename_i hl
        cases hf
        simp only [rgOk, Bool.and_eq_true, decide_eq_true_eq] at hl
        cases dv with
        | cons d1 t =>
          cases t with
          | cons d2 t =>
            cases t with
            | cons d3 t =>
              cases t
              cases d1
              cases d2
              cases d3
              exact ⟨_, _, _, _, rfl, ⟨hl.1.1.1, hl.1.1.2, hl.1.2, (Int.toNat_of_nonneg hl.2).symm⟩, k _ H' Z' g (fun G => wk_int (fun i H h => h) (fun i H x H' h => h) fun i H h => h) rgD_sc⟩
      · cases hf
    · cases hf
def sFor (it : En → Option (List Dt)) (b : Dt → En → Option En) (body : Sm) : Sm := fun ρ => (it ρ).bind fun ds => forL b body ds ρ
theorem s_forR {iter : Expr} {bd : List Stmt} {it : En → Option (List Dt)} {b : Dt → En → Option En} (hp : PassesOwn (model X.prog X.w) X.A X.env X.xe) (hc : X.calm = true) (hi : QR X tg iter it) (hg : QGS X pn tg b) (hb : QSs X pn W bd f) (hs : ∀ x, foldedSetIterable iter X.env x = pure x := by intro _; rfl) :
    QS X pn W (.For tg iter bd [] pos) (sFor it b f) := (ps_for hp hc hi hg hb hs).weak fun D σ H ⟨A, F, N, ρ, o, r, hf, p⟩ => by
  obtain ⟨ds, hd, hf⟩ := bindS hf
  refine ⟨H, ρ, ds, r.rv, hd, fun J H1 Z1 g wk hsc => for_rd (wk none_) (fun _ _ => same_none) (fun F' N' H' U σ' ρ' x d st r' nU sU H2 sUH sHH dx => ?_) (r.mono g.h) hf p⟩
  have hn : ∀ a o, U a = some o → H' a = none := fun a o h => (nU a o h).elim (fun h => by cases h) id
  obtain ⟨F2, N2, st2, r2, s2⟩ := r'.take sHH sUH fun a o h => .inr (hn a o h)
  exact ⟨F2, N2, st2, r2, dx.mono s2⟩
/-- the names that hold leaves -/
def leafE : En → En := List.map fun x => match x with | some (.n d) => some (.n d) | some (.o d) => some (.o d) | _ => none
theorem Rp.leaves {A F N H : Hp} {σ : L2.St} {ρ : En} {vs : List V} {es : List Et} (r : Rp K A F N H pn σ ρ vs es) : Rv K F H σ (leafE ρ) := ⟨r.sF, by obtain ⟨_, _, h, _⟩ := r.own; rw [h.len]; simp [leafE], fun i e h => by
  unfold leafE at h
  rw [List.getElem?_map] at h
  cases q : ρ[i]? with
  | none => rw [q] at h; cases h
  | some x =>
    rw [q] at h
    simp only [Option.map_some, Option.some.injEq] at h
    split at h
    · rename_i d
      cases h
      obtain ⟨v, fp, hv, ho⟩ := r.at q
      cases ho with
      | n hd => exact ⟨v, hv, hd.mono r.nF⟩
    · rename_i d
      cases h
      obtain ⟨v, fp, hv, ho⟩ := r.at q
      cases ho with
      | o hd => exact ⟨v, hv, hd⟩
    · cases h⟩
/-- for over data that stay: of names that hold leaves -/
def sForL (it : En → Option (List Dt)) (b : Dt → En → Option En) (body : Sm) : Sm := fun ρ => (it (leafE ρ)).bind fun ds => forL b body ds ρ
theorem s_for {iter : Expr} {bd : List Stmt} {it : En → Option (List Dt)} {b : Dt → En → Option En} (hp : PassesOwn (model X.prog X.w) X.A X.env X.xe) (hc : X.calm = true) (hi : QI X tg iter it) (hg : QGS X pn tg b) (hb : QSs X pn W bd f) (hs : ∀ x, foldedSetIterable iter X.env x = pure x := by intro _; rfl) :
    QS X pn W (.For tg iter bd [] pos) (sForL it b f) := (ps_for hp hc hi hg hb hs).weak fun D σ H ⟨A, F, N, ρ, o, r, hf, p⟩ => by
  obtain ⟨ds, hd, hf⟩ := bindS hf
  refine ⟨F, leafE ρ, ds, r.leaves, hd, fun J H1 Z1 g wk => ?_⟩
  obtain ⟨F1, N1, st1, r1, s1⟩ := r.take g.h g.s g.n
  refine for_rd wk (fun st r' => s1.trans (st.sF.trans r'.sF)) (fun F' N' H' U σ' ρ' x d st r' nU sU H2 sUH sHH dx => ?_) r1 hf (p.step st1)
  obtain ⟨F2, N2, st2, r2, s2⟩ := r'.take sHH sUH fun a o h => (nU a o h).imp (fun h => st.sF a o (s1 a o h)) id
  exact ⟨F2, N2, st2, r2, dx.mono s2⟩
end Qs
namespace Qs
open PySem PySem.Spec PyProof.Rows L2
variable [CTab]
variable {K : PySem.W.Frag}
/-! ### a def -/
def leaf : Et → Bool | .n _ => true | .o _ => true | _ => false
/-- what becomes of the arguments: those that are pinned are told anew -/
def finE : List Bool → List Et → En → Option (List Et)
  | [], [], _ => some []
  | true :: pb, _ :: es, some e' :: ρ => (finE pb es ρ).map (e' :: ·)
  | false :: pb, e :: es, _ :: ρ => if leaf e = true then (finE pb es ρ).map (e :: ·) else none
  | _, _, _ => none
def fnSem (pb : List Bool) (n : Nat) (f : Sm) : Fn := fun es => if es.length = pb.length then (f (es.map some ++ List.replicate (n - es.length) none)).bind fun o => match o with
  | .rt r ρ' => (finE pb es ρ').map (.ok r)
  | .nx ρ' => (finE pb es ρ').map (.ok (.n .non))
  | .ex C i ρ' => (finE pb es ρ').map (.ex C i)
  | _ => none else none
def pnOf (pb : List Bool) (vs : List V) : List (Nat × V) := (List.range pb.length).filterMap fun i => if pb.getD i false = true then some (i, vs.getD i .non) else none
theorem ownS_start {F N H : Hp} : ∀ {vs : List V} {es : List Et} {gp : List Addr} (n : Nat), Owns K F N H vs es gp → OwnS K F N H (vs.map some ++ List.replicate n none) (es.map some ++ List.replicate n none) gp
  | _, _, _, 0, .nil => .nil
  | _, _, _, n + 1, .nil => by
    have := ownS_start n (Owns.nil (K := K) (F := F) (N := N) (H := H))
    simp only [List.map_nil, List.nil_append, List.replicate_succ] at this ⊢
    exact .skip this
  | _, _, _, n, .cons h t => .cons h (ownS_start n t)
theorem leaf_own {F N H F' N' H' : Hp} {v : V} {e : Et} {fp : List Addr} (h : Own K F N H v e fp) (hl : leaf e = true) (sF : Same F F') (sN : Same N N') : Own K F' N' H' v e [] := by
  cases h with
  | n h => exact .n (h.mono sN)
  | o h => exact .o (h.mono sF)
  | _ => cases hl
theorem fin_own {F N H F' N' H' : Hp} : ∀ {pb : List Bool} {es es' : List Et} {vs : List V} {σ : L2.St} {ρ : En} {fp gp : List Addr}, OwnS K F' N' H' σ ρ fp → finE pb es ρ = some es' → Owns K F N H vs es gp → Same F F' → Same N N' →
    (∀ (i : Nat), pb[i]? = some true → ∃ v, vs[i]? = some v ∧ σ[i]? = some (some v)) → ∃ fp', Owns K F' N' H' vs es' fp' ∧ fp'.Sublist fp
  | [], [], _, _, _, _, _, _, _, e, .nil, _, _, _ => by
    simp only [finE, Option.some.injEq] at e
    subst e
    exact ⟨[], .nil, List.nil_sublist _⟩
  | [], _ :: _, _, _, _, _, _, _, _, e, _, _, _, _ => by cases e
  | true :: _, [], _, _, _, _, _, _, _, e, _, _, _, _ => by cases e
  | false :: _, [], _, _, _, _, _, _, _, e, _, _, _, _ => by cases e
  | true :: pb, _ :: es, _, _, _, _, _, _, .nil, e, _, _, _, _ => by cases e
  | true :: pb, _ :: es, _, _, _, _, _, _, .skip _, e, _, _, _, _ => by cases e
  | true :: pb, _ :: es, _, _, _, _, _, _, .cons h t, e, .cons _ tt, sF, sN, k => by
    simp only [finE, Option.map_eq_some_iff] at e
    obtain ⟨es2, e1, rfl⟩ := e
    obtain ⟨fp', o', sl⟩ := fin_own t e1 tt sF sN fun i hi => by
      obtain ⟨v, a, b⟩ := k (i + 1) (by simpa using hi)
      exact ⟨v, by simpa using a, by simpa using b⟩
    obtain ⟨v, a, b⟩ := k 0 rfl
    simp at a b
    subst a
    subst b
    exact ⟨_, .cons h o', List.Sublist.append (List.Sublist.refl _) sl⟩
  | false :: pb, e0 :: es, _, _, _, [], _, _, s, e, _, _, _, _ => by cases e
  | false :: pb, e0 :: es, _, _, _, x :: ρ, _, _, s, e, .cons h0 tt, sF, sN, k => by
    have e : (if leaf e0 = true then (finE pb es ρ).map (e0 :: ·) else none) = some _ := e
    split at e
    · rename_i hl
      simp only [Option.map_eq_some_iff] at e
      obtain ⟨es2, e1, rfl⟩ := e
      have l0 : Own K F' N' H' _ e0 [] := leaf_own h0 hl sF sN
      cases s with
      | skip t =>
        obtain ⟨fp', o', sl⟩ := fin_own t e1 tt sF sN fun i hi => by
          obtain ⟨v, a, b⟩ := k (i + 1) (by simpa using hi)
          exact ⟨v, by simpa using a, by simpa using b⟩
        exact ⟨_, .cons (fp := []) l0 o', sl⟩
      | cons h t =>
        obtain ⟨fp', o', sl⟩ := fin_own t e1 tt sF sN fun i hi => by
          obtain ⟨v, a, b⟩ := k (i + 1) (by simpa using hi)
          exact ⟨v, by simpa using a, by simpa using b⟩
        exact ⟨_, .cons (fp := []) l0 o', sl.trans (List.sublist_append_right _ _)⟩
    · cases e
theorem mem_pnOf {pb : List Bool} {vs : List V} {i : Nat} (h : pb[i]? = some true) (hv : vs.length = pb.length) : ∃ v, vs[i]? = some v ∧ (i, v) ∈ pnOf pb vs := by
  have hi : i < pb.length := (List.getElem?_eq_some_iff.mp h).1
  refine ⟨vs[i], by simp [hv, hi], List.mem_filterMap.mpr ⟨i, List.mem_range.mpr hi, ?_⟩⟩
  have e1 : pb.getD i false = true := by simp [List.getD, h]
  rw [if_pos e1]
  simp [List.getD, hv, hi]
section
variable {P : Program} {w : World} {mg : Str → Option Value} {base : Heap} {N : List Str} {ps : List Str}
/-- a body that does f, from the arguments to the promise -/
theorem body_rd {X : Cx} {pb : List Bool} {f : Sm} {vs : List V} {H : Hp} {Q : VK} {E : XK} {n : Nat} (hsp : spM X.K (fnSem pb n f) vs H Q E) : tS X.K (pnOf pb vs) (fun c d _ H => E c d H) f { nx := fun _ H' => Q .non H', rt := Q } (vs.map some ++ List.replicate (n - vs.length) none) H := by
  obtain ⟨A, F, N, es, z, r, hz, post⟩ := hsp
  unfold fnSem at hz
  split at hz
  · rename_i hl
    obtain ⟨o, ho, hz⟩ := bindS hz
    have lv : vs.length = es.length := r.len
    obtain ⟨fp, gp, h1, h2, h3, h4⟩ := r.own
    cases h1
    rw [List.nil_append] at h3 h4
    have pin : ∀ p ∈ pnOf pb vs, (vs.map some ++ List.replicate (n - vs.length) none : L2.St)[p.1]? = some (some p.2) := fun p hp => by
      obtain ⟨i, hi, e⟩ := List.mem_filterMap.mp hp
      split at e
      · cases e
        have hi' : i < vs.length := by rw [lv, hl]; exact List.mem_range.mp hi
        rw [List.getElem?_append_left (by simpa using hi')]
        simp [hi', List.getD]
      · cases e
    refine ⟨A, F, N, _, o, ⟨⟨gp, [], (by rw [lv]; exact ownS_start _ h2), .nil, by simpa using h3, by simpa using h4⟩, r.sA, r.sN, r.nA, r.nF, r.fA, pin⟩, ho, fun F' N' H' σ' st => ?_⟩
    -- the arguments at the end
    have fin : ∀ {ρ' : En} {ws : List V} {gs es' : List Et}, finE pb es ρ' = some es' → Rp X.K A F' N' H' (pnOf pb vs) σ' ρ' ws gs → Rp X.K A F' N' H' [] [] [] (ws ++ vs) (gs ++ es') := fun {ρ' ws gs es'} e r' => by
      obtain ⟨fp', gp', k1, k2, k3, k4⟩ := r'.own
      obtain ⟨fq, o', sl⟩ := fin_own k1 e h2 st.sF st.sN fun i hi => by
        obtain ⟨v, hv, hm⟩ := mem_pnOf hi (lv.trans hl)
        exact ⟨v, hv, r'.pin _ hm⟩
      obtain ⟨n1, n2, n3⟩ := List.nodup_append.mp k3
      refine ⟨⟨[], gp' ++ fq, .nil, k2.append o', ?_, fun a ha => k4 a ?_⟩, r'.sA, r'.sN, r'.nA, r'.nF, r'.fA, fun p h => by cases h⟩
      · rw [List.nil_append]
        exact List.nodup_append.mpr ⟨n2, n1.sublist sl, fun a ha b hb e => n3 b (sl.subset hb) a ha e.symm⟩
      · rw [List.nil_append] at ha
        rcases List.mem_append.mp ha with z | z
        · exact List.mem_append_right _ z
        · exact List.mem_append_left _ (sl.subset z)
    cases o with
    | rt e ρ' =>
      intro v r'
      obtain ⟨es', he, rfl⟩ := mapS hz
      exact post v H' F' N' st (fin he r')
    | nx ρ' =>
      intro r'
      obtain ⟨es', he, rfl⟩ := mapS hz
      exact post .non H' F' N' st (fin he (r'.temp .non))
    | ex C i ρ' =>
      intro d r' x
      obtain ⟨es', he, rfl⟩ := mapS hz
      exact post d H' F' N' st (fin he r') x
    | bk ρ' => cases hz
    | ct ρ' => cases hz
  · cases hz
theorem sp_len {g : Fn} {pb : List Bool} {n : Nat} {f : Sm} {vs : List V} {H : Hp} {Q : VK} {E : XK} (h : spM K (fnSem pb n f) vs H Q E) : vs.length = pb.length := by
  obtain ⟨A, F, N, es, z, r, hz, _⟩ := h
  unfold fnSem at hz
  split at hz
  · rename_i hl
    exact r.len.trans hl
  · cases hz
/-- a def that raises nothing -/
theorem fn_ok {x qual : Str} {st : Stmt} {fa : Addr} {fd : FuncData} {k : Nat} {f : Sm} (pb : List Bool) (F : Fun K x qual st fa fd) (S : FnScope N ps (defScope st)) (hl : pb.length = ps.length)
    (body : ∀ (cdv : Value) (A : Around) (outer : List Env) (s : Shared) (H : Hp) (vs : List V) (E : XK), Room k (A.deeper (envOfC qual (defScope st) s.heap.objs.size fa cdv)) →
      QSs (cxOf CX0 P w K mg base N qual (defScope st) fa cdv A outer s H E).nox (pnOf pb vs) (fun c d _ H => E c d H) (defBody st) f) : FnOk P w K mg base CX0 (k + 1) fa fd ps (spM K (fnSem pb N.length f)) := by
  refine F.ok S (fun vs H Q E h => (sp_len (g := fnSem pb N.length f) h).trans hl) fun cdv A outer s H vs Q E hr hsp => ⟨_, body cdv A outer s H vs E hr, ?_⟩
  exact body_rd (X := (cxOf CX0 P w K mg base N qual (defScope st) fa cdv A outer s H E).nox) hsp
theorem fn_okX {x qual : Str} {st : Stmt} {fa : Addr} {fd : FuncData} {k : Nat} {f : Sm} (pb : List Bool) (F : Fun K x qual st fa fd) (S : FnScope N ps (defScope st)) (hl : pb.length = ps.length)
    (body : ∀ (cdv : Value) (A : Around) (outer : List Env) (s : Shared) (H : Hp) (vs : List V) (E : XK), Room k (A.deeper (envOfC qual (defScope st) s.heap.objs.size fa cdv)) →
      Takes (cxOf (L2.CX P w) P w K mg base N qual (defScope st) fa cdv A outer s H E) (fun c d _ H => E c d H) → PassesOwn (model P w) (A.deeper (envOfC qual (defScope st) s.heap.objs.size fa cdv)) (envOfC qual (defScope st) s.heap.objs.size fa cdv) (cxOf (L2.CX P w) P w K mg base N qual (defScope st) fa cdv A outer s H E).xe →
      QSs (cxOf (L2.CX P w) P w K mg base N qual (defScope st) fa cdv A outer s H E) (pnOf pb vs) (fun c d _ H => E c d H) (defBody st) f) : FnOk P w K mg base (L2.CX P w) (k + 1) fa fd ps (spM K (fnSem pb N.length f)) := by
  refine F.okX S (fun vs H Q E h => (sp_len (g := fnSem pb N.length f) h).trans hl) fun cdv A outer s H vs Q E hr hsp => ⟨_, body cdv A outer s H vs E hr (takes_of rfl rfl rfl rfl) (passes_of rfl), ?_⟩
  exact body_rd (X := cxOf (L2.CX P w) P w K mg base N qual (defScope st) fa cdv A outer s H E) hsp
theorem cal_mk {CX : CXT} {x qual : Str} {st : Stmt} {fa : Addr} {fd : FuncData} {k : Nat} {g : Fn} (F : Fun K x qual st fa fd) (hm : mg x = some (.ref fa)) (bn : Binds K fd ps []) (ok : FnOk P w K mg base CX k fa fd ps (spM K g)) : CalR P w K mg base CX k x g := ⟨fa, fd, ps, ok, hm, F.kp, bn⟩
/-- the promise under another name -/
theorem sp_imp {g g' : Fn} (h : ∀ es z, g' es = some z → g es = some z) (vs : List V) (H : Hp) (Q : VK) (E : XK) (q : spM K g' vs H Q E) : spM K g vs H Q E := by
  obtain ⟨A, F, N, es, z, r, hz, post⟩ := q
  exact ⟨A, F, N, es, z, r, h es z hz, post⟩
end
end Qs
namespace Qs
open PySem PySem.Spec PyProof.Rows L2
variable [CTab]
variable {X : Cx} {K : PySem.W.Frag} {F N H F' N' H' A : Hp} {pn : List (Nat × V)} {W : WX} {a b c e : Expr} {pos p2 : Pos} {σ : L2.St} {ρ : En}
theorem Owns.focus : ∀ {vs : List V} {es : List Et} {fp : List Addr} {j : Nat} {e : Et}, Owns K F N H vs es fp → es[j]? = some e →
    ∃ v pre mid post, vs[j]? = some v ∧ fp = pre ++ mid ++ post ∧ Own K F N H v e mid ∧
      ∀ (F' N' H' : Hp) (v' : V) (e' : Et) (m : List Addr), Same F F' → Same N N' → (∀ a ∈ pre ++ post, H' a = H a) → Own K F' N' H' v' e' m → Owns K F' N' H' (vs.set j v') (es.set j e') (pre ++ m ++ post)
  | _, _, _, _, _, .nil, e => by simp at e
  | _, _, _, 0, _, .cons (gp := gp) h t, e => by
    simp at e
    subst e
    refine ⟨_, [], _, gp, rfl, rfl, h, fun F' N' H' v' e' m sF sN k h' => ?_⟩
    simp only [List.set_cons_zero, List.nil_append] at *
    exact .cons h' (t.frame sF sN k)
  | _, _, _, j + 1, _, .cons (fp := fp) h t, e => by
    obtain ⟨v, pre, mid, post, hv, rfl, ho, k⟩ := Owns.focus (j := j) t (by simpa using e)
    refine ⟨v, fp ++ pre, mid, post, by simpa using hv, by simp, ho, fun F' N' H' v' e' m sF sN kk h' => ?_⟩
    have e2 : fp ++ pre ++ m ++ post = fp ++ (pre ++ m ++ post) := by simp
    rw [e2]
    exact .cons (h.frame sF sN fun a ha => kk a (by simp [ha])) (k F' N' H' v' e' m sF sN (fun a ha => kk a (by
      rcases List.mem_append.mp ha with z | z <;> simp [z])) h')
/-! ### places: a slot, or a field of the object in a slot -/
inductive Pl | s (i : Nat) | f (i c j : Nat)
def getS (i : Nat) (ρ : En) : Option Et := match ρ[i]? with | some (some e) => some e | _ => none
def getFd (i c j : Nat) (ρ : En) : Option Et := match ρ[i]? with | some (some (.ob c' es)) => if c' = c then es[j]? else none | _ => none
def getP : Pl → En → Option Et
  | .s i => getS i
  | .f i c j => getFd i c j
def setFd (i c j : Nat) (e : Et) (ρ : En) : Option En := match ρ[i]? with | some (some (.ob c' es)) => if c' = c then some (ρ.set i (some (.ob c (es.set j e)))) else none | _ => none
def plSlot : Pl → Nat | .s i => i | .f i _ _ => i
def setP : Pl → Et → En → Option En
  | .s i, e => fun ρ => some (ρ.set i (some e))
  | .f i c j, e => setFd i c j e
def RefP (σ : L2.St) (H : Hp) : Pl → V → Prop
  | .s i, v => σ[i]? = some (some v)
  | .f i c j, v => ∃ (a dx : Addr) (fs : List (Str × V)) (m : Nat), σ[i]? = some (some (.ref a)) ∧ H a = some (.ins (CTab.addr c) dx fs) ∧ fs.map (·.1) = (CTab.names c).take m ∧ j < m ∧ (fs.map (·.2))[j]? = some v
theorem set_self {σ : L2.St} {i : Nat} {x : Option V} (h : σ[i]? = some x) : σ.set i x = σ := by
  apply List.ext_getElem?
  intro j
  by_cases hj : i = j
  · subst hj
    rw [List.getElem?_set_self (List.getElem?_eq_some_iff.mp h).1, h]
  · rw [List.getElem?_set_ne hj]
theorem set_selfV {vs : List V} {i : Nat} {x : V} (h : vs[i]? = some x) : vs.set i x = vs := by
  apply List.ext_getElem?
  intro j
  by_cases hj : i = j
  · subst hj
    rw [List.getElem?_set_self (List.getElem?_eq_some_iff.mp h).1, h]
  · rw [List.getElem?_set_ne hj]
theorem OwnS.place {fp : List Addr} {p : Pl} {e : Et} (h : OwnS K F N H σ ρ fp) (hp : getP p ρ = some e) : ∃ v pre mid post, RefP σ H p v ∧ fp = pre ++ mid ++ post ∧ Own K F N H v e mid ∧
    (∀ (F' N' H' : Hp) (e' : Et) (m : List Addr), Same F F' → Same N N' → (∀ a ∈ pre ++ post, H' a = H a) → Own K F' N' H' v e' m → ∃ ρ', setP p e' ρ = some ρ' ∧ OwnS K F' N' H' σ ρ' (pre ++ m ++ post)) ∧
    ∃ fq, OwnS K F N H σ (ρ.set (plSlot p) none) fq ∧ ∀ b ∈ fq, b ∈ pre ++ post := by
  cases p with
  | s i =>
    have hp : getS i ρ = some e := hp
    unfold getS at hp
    split at hp
    · rename_i e0 he
      cases hp
      obtain ⟨pre, mid, post, rfl, f1, f2, f3⟩ := h.focus he
      obtain ⟨v, hv, ho⟩ := f1 e rfl
      have hid := f3 F N H (some v) none [] (Same.refl _) (Same.refl _) (fun _ _ => rfl) (.inl ⟨rfl, rfl⟩)
      rw [set_self hv] at hid
      refine ⟨v, pre, mid, post, hv, rfl, ho, fun F' N' H' e' m sF sN k o' => ⟨_, rfl, ?_⟩, _, hid, fun b hb => by simpa using hb⟩
      have := f3 F' N' H' (some v) (some e') m sF sN k (.inr ⟨v, e', rfl, rfl, o'⟩)
      rw [set_self hv] at this
      exact this
    · cases hp
  | f i c j =>
    have hp : getFd i c j ρ = some e := hp
    unfold getFd at hp
    split at hp
    · rename_i c' es he
      split at hp
      · rename_i hc
        have hp2 : es[j]? = some e := hp
        subst hc
        obtain ⟨pre, mid, post, rfl, f1, f2, f3⟩ := h.focus he
        obtain ⟨v, hv, ho⟩ := f1 _ rfl
        have hid := f3 F N H (some v) none [] (Same.refl _) (Same.refl _) (fun _ _ => rfl) (.inl ⟨rfl, rfl⟩)
        rw [set_self hv] at hid
        cases ho with
        | @ob a dx _ fs _ fq ha hn t =>
          obtain ⟨w, p1, m1, q1, hw, rfl, o1, k1⟩ := t.focus hp2
          refine ⟨w, pre ++ (a :: p1), m1, q1 ++ post, ⟨a, dx, fs, es.length, hv, ha, hn, (List.getElem?_eq_some_iff.mp hp2).1, hw⟩, by simp, o1, fun F' N' H' e' m sF sN k o' => ?_, _, hid, fun b hb => by
            simp only [List.append_nil, List.mem_append, List.mem_cons] at hb ⊢
            rcases hb with z | z <;> simp [z]⟩
          have t' := k1 F' N' H' w e' m sF sN (fun b hb => k b (by
            rcases List.mem_append.mp hb with z | z <;> simp [z])) o'
          have ob' : Own K F' N' H' (.ref a) (.ob c' (es.set j e')) (a :: (p1 ++ m ++ q1)) := .ob ((k a (by simp)).trans ha) (by simpa using hn) (by rw [set_selfV hw] at t'; exact t')
          have := f3 F' N' H' (some (.ref a)) (some (.ob c' (es.set j e'))) _ sF sN (fun b hb => k b (by
            rcases List.mem_append.mp hb with z | z <;> simp [z])) (.inr ⟨_, _, rfl, rfl, ob'⟩)
          rw [set_self hv] at this
          refine ⟨ρ.set i (some (.ob c' (es.set j e'))), ?_, ?_⟩
          · show setFd i c' j e' ρ = _
            unfold setFd
            rw [he]
            exact if_pos rfl
          · have e2 : pre ++ a :: p1 ++ m ++ (q1 ++ post) = pre ++ (a :: (p1 ++ m ++ q1)) ++ post := by simp
            rw [e2]
            exact this
      · cases hp
    · cases hp
/-- the thing at a place changes, over its own objects and the temps' -/
theorem Rp.change {p : Pl} {e : Et} {ws : List V} {gs : List Et} (r : Rp K A F N H pn σ ρ ws gs) (hp : getP p ρ = some e) : ∃ v mid gp, RefP σ H p v ∧ Own K F N H v e mid ∧ Owns K F N H ws gs gp ∧ (mid ++ gp).Nodup ∧
    ∀ (H' : Hp) (e' : Et) (m : List Addr) (rs : List V) (rgs : List Et) (rfp : List Addr), (∀ b, b ∉ mid → H' b = H b) → Own K F N H' v e' m → Owns K F N H' rs rgs rfp → (m ++ rfp).Nodup → (∀ b ∈ m ++ rfp, b ∈ mid ++ gp) →
      ∃ ρ', setP p e' ρ = some ρ' ∧ Rp K A F N H' pn σ ρ' rs rgs := by
  obtain ⟨fp, gp, h1, h2, h3, h4⟩ := r.own
  obtain ⟨v, pre, mid, post, hv, rfl, ho, k, _⟩ := h1.place hp
  obtain ⟨n1, n2, n3⟩ := List.nodup_append.mp h3
  obtain ⟨m1, m2, m3⟩ := List.nodup_append.mp n1
  obtain ⟨l1, l2, l3⟩ := List.nodup_append.mp m1
  refine ⟨v, mid, gp, hv, ho, h2, List.nodup_append.mpr ⟨l2, n2, fun a ha b hb => n3 a (by simp [ha]) b hb⟩, fun H' e' m rs rgs rfp kH o' t' nd sub => ?_⟩
  have off : ∀ b ∈ pre ++ post, b ∉ mid := fun b hb hm => by
    rcases List.mem_append.mp hb with z | z
    · exact l3 b z b hm rfl
    · exact m3 b (by simp [hm]) b z rfl
  obtain ⟨ρ', hs, o2⟩ := k F N H' e' m (Same.refl _) (Same.refl _) (fun b hb => kH b (off b hb)) o'
  have keep : ∀ {Z : Hp}, (∀ a ∈ mid, Z a = none) → Same Z H → Same Z H' := fun {Z} hz s a o h => by
    rw [kH a fun hm => by rw [hz a hm] at h; cases h]
    exact s a o h
  refine ⟨ρ', hs, ⟨_, rfp, o2, t', ?_, fun b hb => ?_⟩, keep (fun a ha => (h4 a (by simp [ha])).1) r.sA, keep (fun a ha => (h4 a (by simp [ha])).2) r.sN, r.nA, r.nF, r.fA, r.pin⟩
  · -- pre ++ m ++ post ++ rfp
    obtain ⟨d1, d2, d3⟩ := List.nodup_append.mp nd
    have pm : ∀ b ∈ pre ++ post, b ∉ m ++ rfp := fun b hb hm => by
      rcases List.mem_append.mp (sub b hm) with z | z
      · exact off b hb z
      · exact n3 b (by rcases List.mem_append.mp hb with y | y <;> simp [y]) b z rfl
    refine List.nodup_append.mpr ⟨nodup_repl n1 d1 fun b hb => .inr ⟨fun z => pm b (by simp [z]) (by simp [hb]), fun z => pm b (by simp [z]) (by simp [hb])⟩, d2, fun x hx y hy e => ?_⟩
    subst e
    simp only [List.mem_append] at hx
    rcases hx with (z | z) | z
    · exact pm x (by simp [z]) (by simp [hy])
    · exact d3 x z x hy rfl
    · exact pm x (by simp [z]) (by simp [hy])
  · simp only [List.mem_append] at hb
    rcases hb with ((z | z) | z) | z
    · exact h4 b (by simp [z])
    · rcases List.mem_append.mp (sub b (by simp [z])) with y | y <;> exact h4 b (by simp [y])
    · exact h4 b (by simp [z])
    · rcases List.mem_append.mp (sub b (by simp [z])) with y | y <;> exact h4 b (by simp [y])
/-- an expression that names a place -/
def tRef (p : Pl) : TE := fun σ H Q => ∃ v, RefP σ H p v ∧ Q v H
abbrev QL (X : Cx) (e : Expr) (p : Pl) : Prop := PE X e (tRef p)
theorem l_var {i : Nat} {x : Str} (hN : X.N[i]? = some x := by rfl) (hv : Vis X.env.scope x := by first | exact Or.inl rfl | exact Or.inr (Or.inl rfl) | exact Or.inr (Or.inr rfl)) (hd : (x == ("__debug__" : Str)) = false := by decide) (hcd : (x == ("__classdict__" : Str)) = false := by decide) : QL X (.Name x pos) (.s i) := pe_var hN hv hd hcd
theorem l_fld {i c j : Nat} {n : Str} (R : FldR X.K c j n) (h : QL X e (.s i)) (hb : attributeBase e n X.env (eval e X.env) = eval e X.env := by rfl) : QL X (.Attribute e n pos) (.f i c j) :=
  (pe_fld h hb).weak fun σ H Q ⟨v, ⟨a, dx, fs, m, hs, ha, hn, hj, hv⟩, q⟩ => ⟨_, hs, a, _, dx, fs, v, rfl, ha, R.cl, R.na, lookup_get (by rw [hn]; exact R.nd.sublist (List.take_sublist _ _)) (by rw [hn]; exact names_at R hj) hv, q⟩
/-! ### self.f = e -/
def putE (es : List Et) (j : Nat) (e : Et) : Option (List Et) := if j < es.length then some (es.set j e) else if j = es.length then some (es ++ [e]) else none
def setF (i c j : Nat) (e : Et) (ρ : En) : Option En := match ρ[i]? with | some (some (.ob c' es)) => if c' = c then (putE es j e).map fun es' => ρ.set i (some (.ob c es')) else none | _ => none
theorem putF_set {n : Str} {y : V} : ∀ {fs : List (Str × V)} {j : Nat}, (fs.map (·.1)).Nodup → (fs.map (·.1))[j]? = some n → (L2.putF n y fs).map (·.1) = fs.map (·.1) ∧ (L2.putF n y fs).map (·.2) = (fs.map (·.2)).set j y
  | [], _, _, h => by simp at h
  | (x, v) :: fs, 0, _, h => by
    simp at h
    subst h
    unfold L2.putF
    simp
  | (x, v) :: fs, j + 1, nd, h => by
    simp only [List.map_cons, List.getElem?_cons_succ] at h
    simp only [List.map_cons, List.nodup_cons] at nd
    have ne : ¬ x = n := fun e => nd.1 (by rw [e]; exact List.mem_of_getElem? h)
    unfold L2.putF
    rw [if_neg ne]
    obtain ⟨a, b⟩ := putF_set (y := y) nd.2 h
    simp [a, b]
theorem putF_new {n : Str} {y : V} : ∀ {fs : List (Str × V)}, n ∉ fs.map (·.1) → L2.putF n y fs = fs ++ [(n, y)]
  | [], _ => rfl
  | (x, v) :: fs, h => by
    simp only [List.map_cons, List.mem_cons, not_or] at h
    unfold L2.putF
    rw [if_neg (Ne.symm h.1), putF_new h.2]
    rfl
theorem Rp.setF {i c j : Nat} {n : Str} {y : V} {e : Et} {ρ' : En} (R : FldR K c j n) (r : Rp K A F N H pn σ ρ [y] [e]) (h : Qs.setF i c j e ρ = some ρ') :
    ∃ a dx fs, σ[i]? = some (some (.ref a)) ∧ H a = some (.ins (CTab.addr c) dx fs) ∧ fs.length < 1000 ∧ Rp K A F N (upd H a (.ins (CTab.addr c) dx (L2.putF n y fs))) pn σ ρ' [] [] := by
  unfold Qs.setF at h
  split at h
  · rename_i c' es he
    split at h
    · rename_i hc
      subst hc
      obtain ⟨es', hp, rfl⟩ := mapS h
      obtain ⟨v, mid, gp, hv, ho, ht, nd, k⟩ := r.change (p := .s i) (show getS i ρ = some (.ob c' es) by unfold getS; rw [he])
      cases ho with
      | @ob a dx _ fs _ fq ha hn t =>
        have few : fs.length < 1000 := by
          have h1 : (fs.map (·.1)).length ≤ (CTab.names c').length := by rw [hn, List.length_take]; exact Nat.min_le_right _ _
          rw [List.length_map] at h1
          exact Nat.lt_of_le_of_lt h1 R.few
        refine ⟨a, dx, fs, hv, ha, few, ?_⟩
        cases ht with
        | cons o1 t1 =>
          cases t1
          rename_i g1
          rw [List.append_nil] at nd k
          have nda : a ∉ fq ∧ a ∉ g1 := by
            simp only [List.cons_append, List.nodup_cons, List.mem_append, not_or] at nd
            exact nd.1
          have fr : ∀ b, b ∉ a :: fq → upd H a (HO.ins (CTab.addr c') dx (L2.putF n y fs)) b = H b := fun b hb => upd_ne fun e => hb (by simp [e])
          have t' := t.frame (F' := F) (N' := N) (H' := upd H a (HO.ins (CTab.addr c') dx (L2.putF n y fs))) (Same.refl _) (Same.refl _) fun b hb => upd_ne fun e => nda.1 (e ▸ hb)
          have o1' := o1.frame (F' := F) (N' := N) (H' := upd H a (HO.ins (CTab.addr c') dx (L2.putF n y fs))) (Same.refl _) (Same.refl _) fun b hb => upd_ne fun e => nda.2 (e ▸ hb)
          have lfs : fs.length = es.length := by
            have := t.length
            simpa using this
          unfold putE at hp
          split at hp
          · rename_i hj
            cases hp
            obtain ⟨w, p1, m1, q1, hw, e1, o2, kk⟩ := t'.focus (List.getElem?_eq_getElem hj)
            have t2 := kk F N _ y e g1 (Same.refl _) (Same.refl _) (fun _ _ => rfl) o1'
            obtain ⟨s1, s2⟩ := putF_set (y := y) (by rw [hn]; exact R.nd.sublist (List.take_sublist _ _)) (by rw [hn]; exact names_at R hj : (fs.map (·.1))[j]? = some n)
            have nd' : (a :: (fq ++ g1)).Nodup := by simpa using nd
            obtain ⟨ρ2, hs, r2⟩ := k _ (.ob c' (es.set j e)) (a :: (p1 ++ g1 ++ q1)) [] [] [] fr (.ob upd_same (by rw [s1, hn]; simp) (by rw [s2]; exact t2)) .nil (by
              rw [List.append_nil]
              subst e1
              simp only [List.nodup_cons, List.mem_append, not_or] at nd' ⊢
              obtain ⟨⟨⟨na1, na2⟩, na4⟩, nd1⟩ := nd'
              refine ⟨⟨⟨na1.1, na4⟩, na2⟩, ?_⟩
              obtain ⟨x1, x2, x3⟩ := List.nodup_append.mp nd1
              exact nodup_repl x1 x2 fun b hb => .inr ⟨fun z => x3 b (by simp [z]) b hb rfl, fun z => x3 b (by simp [z]) b hb rfl⟩) (fun b hb => by
              subst e1
              simp only [List.append_nil, List.mem_cons, List.mem_append] at hb ⊢
              rcases hb with z | (z | z) | z <;> simp [z])
            cases hs
            exact r2
          · split at hp
            · rename_i h1 hj
              cases hp
              have nn : n ∉ fs.map (·.1) := fun hm => by
                rw [hn] at hm
                obtain ⟨q, hq, e⟩ := List.getElem_of_mem hm
                have hq' : q < es.length := by
                  rw [List.length_take] at hq
                  omega
                have e' : (CTab.names c')[q]? = some n := by
                  rw [← e, List.getElem_take]
                  exact List.getElem?_eq_getElem _
                have := R.ix
                have hqq := nodup_ix R.nd e' this
                omega
              rw [putF_new nn] at fr t' o1' ⊢
              have hjn : j < (CTab.names c').length := (List.getElem?_eq_some_iff.mp R.ix).1
              obtain ⟨ρ2, hs, r2⟩ := k _ (.ob c' (es ++ [e])) (a :: (fq ++ g1)) [] [] [] fr (.ob upd_same (by
                rw [List.map_append, hn]
                simp only [List.map_cons, List.map_nil, List.length_append, List.length_singleton]
                rw [← hj, List.take_succ, R.ix]
                rfl) (by
                rw [List.map_append]
                have := t'.append (.cons o1' .nil)
                simpa using this)) .nil (by rw [List.append_nil]; simpa using nd) (fun b hb => by simpa using hb)
              cases hs
              exact r2
            · cases hp
    · cases h
  · cases h
def sFld (i c j : Nat) (m : Mm) : Sm := fun ρ => (m ρ).bind fun z => match z with | .ok e ρ' => (setF i c j e ρ').map .nx | .ex C i ρ' => some (.ex C i ρ')
theorem s_fld {o : Expr} {n : Str} {i c j : Nat} {pos' : Pos} {m : Mm} (R : FldR X.K c j n) (ho : QL X o (.s i)) (he : QM X pn W e m) (hs : swapsWith e (some (.Attribute o n pos')) pos.line X.env = pure false := by rfl) : QS X pn W (.Assign [.Attribute o n pos'] e pos) (sFld i c j m) :=
  (ps_fld ho he hs).weak fun D σ H ⟨A, F, N, ρ, out, r, hf, p⟩ => by
    obtain ⟨z, hz, hf⟩ := bindS hf
    refine ⟨A, F, N, ρ, z, r, hz, fun F' N' H' st => ?_⟩
    cases z with
    | ok e ρ' =>
      intro v r'
      obtain ⟨ρ2, h2, rfl⟩ := mapS (show (setF i c j e ρ').map Out.nx = some out from hf)
      obtain ⟨a, dx, fs, h3, h4, h5, r2⟩ := r'.setF R h2
      exact ⟨_, h3, a, _, dx, fs, rfl, h4, R.cl, R.na, h5, p F' N' _ σ st r2⟩
    | ex C i ρ' =>
      cases hf
      exact fun d r' x => p F' N' H' σ st d r' x
/-- self.f op= e, of scalars -/
def sFldA (i c j : Nat) (s : Dt → Dt → Option Dt) (f : En → Option Dt) : Sm := fun ρ => (getP (.f i c j) ρ).bind fun x => (f ρ).bind fun y => (s (toD x) y).bind fun z => if sc z = true then (setF i c j (.n z) ρ).map .nx else none
theorem s_fldA {o : Expr} {n : Str} {i c j : Nat} {op : Operator} {tpos : Pos} {r : V → V → Hp → VK → Prop} {s : Dt → Dt → Option Dt} {f : En → Option Dt} (R : FldR X.K c j n) (ho : QL X o (.s i)) (hop : InOp X op r) (hs : SO X.K r s) (he : QP X e f) :
    QS X pn W (.AugAssign (.Attribute o n tpos) op e pos) (sFldA i c j s f) := (ps_fldaug ho he hop).weak fun D σ H ⟨A, F, N, ρ, out, r, hf, p⟩ => by
  obtain ⟨x, hx, hf⟩ := bindS hf
  obtain ⟨y, hy, hf⟩ := bindS hf
  obtain ⟨z, hz, hf⟩ := bindS hf
  split at hf
  · rename_i hsc
    obtain ⟨ρ2, h2, rfl⟩ := mapS hf
    obtain ⟨v, mid, gp, hv, hown, _, _, _⟩ := r.change hx
    obtain ⟨a, dx, fs, m, h1, ha, hn, hj, hvj⟩ := hv
    refine ⟨_, h1, a, _, dx, fs, v, rfl, ha, R.cl, R.na, lookup_get (by rw [hn]; exact R.nd.sublist (List.take_sublist _ _)) (by rw [hn]; exact names_at R hj) hvj, H, ρ, y, r.rv, hy, fun u H2 Z2 g du => ?_⟩
    have dv : Dat X.K H v (toD x) := hown.dat r.sF r.sN fun _ _ _ h => h
    refine hs (toD x) y z v u H2 H2 _ hz (Same.refl _) (dv.mono g.h) (du.mono g.s) fun w H3 Z3 g3 dw => ?_
    have r3 := (r.mono (g.h.trans g3.h)).temp (dw.sc (F' := N) hsc)
    obtain ⟨a', dx', fs', k1, k2, k3, r4⟩ := r3.setF R h2
    rw [h1] at k1
    cases k1
    exact ⟨dx', fs', k2, k3, p F N _ σ Stp.refl r4⟩
  · cases hf
/-- name op= e, of scalars -/
def sAug (i : Nat) (s : Dt → Dt → Option Dt) (f : En → Option Dt) : Sm := fun ρ => (pV i ρ).bind fun x => (f ρ).bind fun y => (s x y).bind fun z => if sc z = true ∧ i < ρ.length then some (.nx (ρ.set i (some (.n z)))) else none
theorem s_aug {x : Str} {i : Nat} {op : Operator} {pos' : Pos} {r : V → V → Hp → VK → Prop} {s : Dt → Dt → Option Dt} {f : En → Option Dt} (hop : PIp X op r) (hs : SO X.K r s) (he : QP X e f) (hN : X.N.Nodup) (hp : NoPin pn i := by intro p h; simp at h) (hi : X.N[i]? = some x := by rfl) (hx : Loc X.env.scope x := by first | exact Or.inl rfl | exact Or.inr rfl)
    (hf : X.fn x = true ∨ X.env.scope.names.lookup x = some .local := by first | exact .inl rfl | exact .inr rfl | assumption) : QS X pn W (.AugAssign (.Name x pos') op e pos) (sAug i s f) := (ps_aug hN hi hx he hop hf).weak fun D σ H ⟨A, F, N, ρ, out, r, hf, p⟩ => by
  obtain ⟨x, hx, hf⟩ := bindS hf
  obtain ⟨y, hy, hf⟩ := bindS hf
  obtain ⟨z, hz, hf⟩ := bindS hf
  split at hf
  · rename_i hsc
    cases hf
    unfold pV at hx
    split at hx
    · rename_i e0 h0
      cases hx
      obtain ⟨v, hv, dv⟩ := r.dat h0
      refine ⟨v, hv, H, ρ, y, r.rv, hy, fun u H2 Z2 g du => hs (toD e0) y z v u H2 H2 _ hz (Same.refl _) (dv.mono g.h) (du.mono g.s) fun w H3 Z3 g3 dw => ?_⟩
      exact p F N H3 _ Stp.refl (((r.mono (g.h.trans g3.h)).temp (dw.sc (F' := N) hsc.1)).store hsc.2 hp)
    · cases hx
  · cases hf
end Qs
namespace Qs
open PySem PySem.Spec PyProof.Rows L2
variable [CTab]
variable {X : Cx} {K : PySem.W.Frag} {F N H F' N' H' A : Hp} {pn : List (Nat × V)} {W : WX} {a b c e : Expr} {pos p2 : Pos} {σ : L2.St} {ρ : En}
theorem RefP.inj {p : Pl} {v u : V} (h : RefP σ H p v) (s : Same H H') (h' : RefP σ H' p u) : u = v := by
  cases p with
  | s i =>
    have a : σ[i]? = some (some v) := h
    have b : σ[i]? = some (some u) := h'
    rw [a] at b
    cases b
    rfl
  | f i c j =>
    obtain ⟨a, dx, fs, m, h1, h2, h3, h4, h5⟩ := h
    obtain ⟨a', dx', fs', m', k1, k2, k3, k4, k5⟩ := h'
    rw [h1] at k1
    cases k1
    rw [s _ _ h2] at k2
    cases k2
    rw [h5] at k5
    cases k5
    rfl
theorem Rp.ref {p : Pl} {e : Et} {ws : List V} {gs : List Et} (r : Rp K A F N H pn σ ρ ws gs) (hp : getP p ρ = some e) : ∃ v fp, RefP σ H p v ∧ Own K F N H v e fp := by
  obtain ⟨v, mid, gp, h1, h2, _⟩ := r.change hp
  exact ⟨v, mid, h1, h2⟩
/-- a place read as data, a pure expression -/
def lenE : Et → Nat | .fl ds => ds.length | .lst es => es.length | _ => 0
def asL : Et → Option (List Et) | .fl ds => some (ds.map .n) | .lst es => some es | _ => none
/-- an owned list -/
theorem own_list {v : V} {e : Et} {mid : List Addr} {es : List Et} (ho : Own K F N H v e mid) (h : asL e = some es) : ∃ a vs fp, v = .ref a ∧ mid = a :: fp ∧ H a = some (.lst vs) ∧ Owns K F N H vs es fp ∧ vs.length = lenE e := by
  cases ho with
  | @fl a vs ds ha t =>
    cases h
    have : ∀ {vs : List V} {ds : List Dt}, Dats K N vs ds → Owns K F N H vs (ds.map .n) [] := fun {vs ds} t => by
      induction ds generalizing vs with
      | nil => cases t; exact .nil
      | cons d ds ih =>
        cases t with
        | cons h t => exact .cons (fp := []) (.n h) (ih t)
    exact ⟨a, vs, [], rfl, rfl, ha, this t, t.length⟩
  | lst ha t =>
    cases h
    exact ⟨_, _, _, rfl, rfl, ha, t, t.length⟩
  | _ => cases h
theorem own_n {vs : List V} {ds : List Dt} {fp : List Addr} (t : Owns K F N H vs (ds.map .n) fp) : Dats K N vs ds ∧ fp = [] := by
  induction ds generalizing vs fp with
  | nil => cases t; exact ⟨.nil, rfl⟩
  | cons d ds ih =>
    cases t with
    | cons h t =>
      cases h with
      | n h =>
        obtain ⟨a, b⟩ := ih t
        subst b
        exact ⟨.cons h a, rfl⟩
/-- the list again: flat if all are n -/
def allN : List Et → Option (List Dt)
  | [] => some []
  | .n d :: es => (allN es).map (d :: ·)
  | _ => none
theorem allN_of : ∀ {es : List Et} {ds : List Dt}, allN es = some ds → es = ds.map .n
  | [], _, h => by cases h; rfl
  | e :: es, ds, h => by
    cases e with
    | n d =>
      simp only [allN, Option.map_eq_some_iff] at h
      obtain ⟨xs, h1, rfl⟩ := h
      rw [List.map_cons, allN_of h1]
    | _ => simp [allN] at h
theorem allN_map : ∀ ds : List Dt, allN (ds.map .n) = some ds
  | [] => rfl
  | d :: ds => by
    rw [List.map_cons, allN, allN_map ds]
    rfl
def appE : Et → Et → Option Et
  | .fl ds, .n d => some (.fl (ds ++ [d]))
  | .fl ds, g => some (.lst (ds.map .n ++ [g]))
  | .lst es, g => some (.lst (es ++ [g]))
  | _, _ => none
theorem appE_as {e g e' : Et} (h : appE e g = some e') : ∃ es, asL e = some es ∧ ((∃ ds, e' = .fl ds ∧ ds.map .n = es ++ [g]) ∨ e' = .lst (es ++ [g])) := by
  unfold appE at h
  split at h <;> cases h
  · exact ⟨_, rfl, .inl ⟨_, rfl, by simp⟩⟩
  · exact ⟨_, rfl, .inr rfl⟩
  · exact ⟨_, rfl, .inr rfl⟩
def setE : Et → Nat → Et → Option Et
  | .fl ds, j, .n d => some (.fl (ds.set j d))
  | .fl ds, j, g => some (.lst ((ds.map .n).set j g))
  | .lst es, j, g => some (.lst (es.set j g))
  | _, _, _ => none
theorem setE_as {e g e' : Et} {j : Nat} (h : setE e j g = some e') : ∃ es, asL e = some es ∧ ((∃ ds, e' = .fl ds ∧ ds.map .n = es.set j g) ∨ e' = .lst (es.set j g)) := by
  unfold setE at h
  split at h <;> cases h
  · exact ⟨_, rfl, .inl ⟨_, rfl, by simp [List.map_set]⟩⟩
  · exact ⟨_, rfl, .inr rfl⟩
  · exact ⟨_, rfl, .inr rfl⟩
theorem own_new {a : Addr} {vs : List V} {es : List Et} {fp : List Addr} {e' : Et} (ha : H a = some (.lst vs)) (t : Owns K F N H vs es fp) (h : (∃ ds, e' = .fl ds ∧ ds.map .n = es) ∨ e' = .lst es) : Own K F N H (.ref a) e' (a :: fp) := by
  rcases h with ⟨ds, rfl, rfl⟩ | rfl
  · obtain ⟨d, e⟩ := own_n t
    subst e
    exact .fl ha d
  · exact .lst ha t
def sApp (p : Pl) (f : En → Option Et) : Sm := fun ρ => (getP p ρ).bind fun e => (f ρ).bind fun g => if lenE e < sizeLine then (appE e g).bind fun e' => (setP p e' ρ).map .nx else none
theorem s_app {o : Expr} {p : Pl} {f : En → Option Et} {apos cpos : Pos} (ho : QL X o p) (he : QE X pn e f) (hbase : attributeBase o "append" X.env (eval o X.env) = eval o X.env := by rfl)
    (hfew : ((backTo cpos (starEach [e] X.env)).all (fun x => !x.1) && (backToKw cpos (keywordEach [] X.env)).all (fun x => x.1.isSome) && decide (([e] : List Expr).length + ([] : List Keyword).length + (if ([] : List Keyword).isEmpty then 0 else 1) < 30)) = true := by rfl)
    (hline : (apos.endLine == cpos.line) = true := by rfl) (hs : starEach [e] X.env = (false, eval e X.env) :: starEach [] X.env := by rfl) (hsw : swapsWith (.Call (.Attribute o "append" apos) [e] [] cpos) none pos.line X.env = pure false := by rfl) :
    QS X pn W (.Expr (.Call (.Attribute o "append" apos) [e] [] cpos) pos) (sApp p f) :=
  (ps_expr (pe_bm PySem.F.plainAttrs_list PySem.F.slot_list_append PySem.F.type_list_append mt_append ho (pa_cons he pa_nil hs) hbase hfew hline hs) hsw).weak fun D σ H ⟨A, F, N, ρ, out, r, hf, q⟩ => by
    obtain ⟨e0, h0, hf⟩ := bindS hf
    obtain ⟨g, hg, hf⟩ := bindS hf
    split at hf
    · rename_i hl
      obtain ⟨e', he', hf⟩ := bindS hf
      obtain ⟨ρ2, h2, rfl⟩ := mapS hf
      obtain ⟨es, has, hform⟩ := appE_as he'
      obtain ⟨v, fp, hv, ov⟩ := r.ref h0
      obtain ⟨l, vs, fq, rfl, rfl, hla, ht, hlen⟩ := own_list ov has
      refine ⟨_, hv, .inl ⟨rfl, _, SqL.of hla⟩, A, F, N, ρ, g, r, hg, fun y H1 F1 N1 s1 st1 r1 => ?_⟩
      obtain ⟨v2, mid, gp, hv2, ov2, tg, nd, k⟩ := r1.change h0
      have e2 := hv.inj s1 hv2
      subst e2
      obtain ⟨l2, vs2, fq2, e3, rfl, hla2, ht2, hlen2⟩ := own_list ov2 has
      cases e3
      refine ⟨l, vs2, y, rfl, rfl, hla2, by rw [hlen2]; exact hl, ?_⟩
      cases tg with
      | cons og tn =>
        cases tn
        rename_i g1
        rw [List.append_nil] at nd k
        have nd' : l ∉ fq2 ∧ l ∉ g1 := by
          simp only [List.cons_append, List.nodup_cons, List.mem_append, not_or] at nd
          exact nd.1
        have fr : ∀ b, b ≠ l → upd H1 l (HO.lst (vs2 ++ [y])) b = H1 b := fun b hb => upd_ne hb
        have t' := (ht2.frame (H' := upd H1 l (HO.lst (vs2 ++ [y]))) (Same.refl F1) (Same.refl N1) fun b hb => fr b fun e => nd'.1 (e ▸ hb)).append (.cons (og.frame (H' := upd H1 l (HO.lst (vs2 ++ [y]))) (Same.refl F1) (Same.refl N1) fun b hb => fr b fun e => nd'.2 (e ▸ hb)) .nil)
        obtain ⟨ρ3, hs3, r3⟩ := k _ e' (l :: (fq2 ++ (g1 ++ []))) [] [] [] (fun b hb => fr b fun e => hb (by simp [e])) (own_new upd_same t' hform) .nil (by simpa using nd) (fun b hb => by simpa using hb)
        rw [h2] at hs3
        cases hs3
        exact q F1 N1 _ σ st1 r3
    · cases hf
/-- place[i] = e -/
def sSetI (p : Pl) (f : En → Option Dt) (m : Mm) : Sm := fun ρ => (m ρ).bind fun z => match z with
  | .ok g ρ' => (getP p ρ').bind fun e => (f ρ').bind fun i => match i with
    | .int k => (ixN (lenE e) k).bind fun j => (setE e j g).bind fun e' => (setP p e' ρ').map .nx
    | _ => none
  | .ex C i ρ' => some (.ex C i ρ')
theorem s_setI {o ix : Expr} {p : Pl} {f : En → Option Dt} {m : Mm} {tpos : Pos} (ho : QL X o p) (hi : QP X ix f) (he : QM X pn W e m) (hsi : PlainIx ix := by exact fun _ _ => rfl)
    (ha : ∀ v, assign (.Subscript o ix tpos) X.env v = (do
      let ov ← holding [v] (eval o X.env)
      let iv ← holding [v, ov] (eval ix X.env)
      standAt tpos
      holding [v, ov, iv] (setItem ov iv v)
      release [v, ov, iv] []) := by intro _; rfl) (hs : swapsWithSole [.Subscript o ix tpos] e pos.line X.env = pure false := by rfl) (hw : swappedStores [.Subscript o ix tpos] e X.env = pure none := by rfl)
    (h1 : (assignEach [.Subscript o ix tpos] X.env).map (·.2) = [assign (.Subscript o ix tpos) X.env] := by rfl) : QS X pn W (.Assign [.Subscript o ix tpos] e pos) (sSetI p f m) :=
  (ps_asg he (pg_sub ho hi set_list ha) hs hw h1).weak fun D σ H ⟨A, F, N, ρ, out, r, hf, q⟩ => by
    obtain ⟨z, hz, hf⟩ := bindS hf
    refine ⟨A, F, N, ρ, z, r, hz, fun F' N' H' st => ?_⟩
    cases z with
    | ok g ρ' =>
      intro y r'
      obtain ⟨e0, h0, hf⟩ := bindS hf
      obtain ⟨i, hi, hf⟩ := bindS hf
      cases i <;> first | (cases hf; done) | skip
      rename_i kk
      obtain ⟨j, hj, hf⟩ := bindS hf
      obtain ⟨e', he', hf⟩ := bindS hf
      obtain ⟨ρ2, h2, rfl⟩ := mapS hf
      obtain ⟨es, has, hform⟩ := setE_as he'
      obtain ⟨v, fp, hv, ov⟩ := r'.ref h0
      refine ⟨v, hv, H', ρ', _, r'.rv, hi, fun u H1 Z1 g1 du => ?_⟩
      cases du
      have r1 := r'.mono g1.h
      obtain ⟨v2, mid, gp, hv2, ov2, tg, nd, k⟩ := r1.change h0
      have e2 := hv.inj g1.h hv2
      subst e2
      obtain ⟨l2, vs2, fq2, rfl, rfl, hla2, ht2, hlen2⟩ := own_list ov2 has
      refine ⟨l2, vs2, kk, j, rfl, rfl, hla2, by rw [hlen2]; exact hj, ?_⟩
      cases tg with
      | cons og tn =>
        cases tn
        rename_i g1'
        rw [List.append_nil] at nd k
        have nd' : l2 ∉ fq2 ∧ l2 ∉ g1' := by
          simp only [List.cons_append, List.nodup_cons, List.mem_append, not_or] at nd
          exact nd.1
        have fr : ∀ b, b ≠ l2 → upd H1 l2 (HO.lst (vs2.set j y)) b = H1 b := fun b hb => upd_ne hb
        have hjl : j < es.length := by
          have l1 : j < vs2.length := by rw [hlen2]; exact (ixN_seq hj).2.1
          rw [ht2.length] at l1
          exact l1
        obtain ⟨w, pre, md, post, hw', e5, _, kf⟩ := ht2.focus (List.getElem?_eq_getElem hjl)
        subst e5
        have t' := kf F' N' (upd H1 l2 (HO.lst (vs2.set j y))) y g g1' (Same.refl _) (Same.refl _) (fun b hb => fr b fun e => nd'.1 (by rw [← e]; rcases List.mem_append.mp hb with z | z <;> simp [z])) (og.frame (Same.refl F') (Same.refl N') fun b hb => fr b fun e => nd'.2 (e ▸ hb))
        have ndd : (l2 :: (pre ++ md ++ post ++ g1')).Nodup := by simpa using nd
        obtain ⟨ρ3, hs3, r3⟩ := k _ e' (l2 :: (pre ++ g1' ++ post)) [] [] [] (fun b hb => fr b fun e => hb (by simp [e])) (own_new upd_same t' hform) .nil (by
          rw [List.append_nil]
          obtain ⟨a1, a2⟩ := List.nodup_cons.mp ndd
          obtain ⟨x1, x2, x3⟩ := List.nodup_append.mp a2
          refine List.nodup_cons.mpr ⟨fun hb => a1 ?_, nodup_repl x1 x2 fun b hb => .inr ⟨fun z => x3 b (by simp [z]) b hb rfl, fun z => x3 b (by simp [z]) b hb rfl⟩⟩
          simp only [List.mem_append] at hb ⊢
          rcases hb with (z | z) | z <;> simp [z]) (fun b hb => by
          simp only [List.append_nil, List.mem_cons, List.mem_append] at hb ⊢
          rcases hb with z | (z | z) | z <;> simp [z])
        rw [h2] at hs3
        cases hs3
        exact q F' N' _ σ st r3
    | ex C i ρ' =>
      cases hf
      exact fun d r' x => q F' N' H' σ st d r' x
/-- place.extend(scalars) -/
def extE : Et → Dt → Option Et
  | .fl ds, .lst xs => if ds.length + xs.length ≤ sizeLine ∧ xs.all sc = true then some (.fl (ds ++ xs)) else none
  | _, _ => none
def sExt (p : Pl) (f : En → Option Dt) : Sm := fun ρ => (getP p ρ).bind fun e => (f ρ).bind fun d => (extE e d).bind fun e' => (setP p e' ρ).map .nx
theorem s_ext {o : Expr} {p : Pl} {f : En → Option Dt} {apos cpos : Pos} (ho : QL X o p) (he : QP X e f) (hbase : attributeBase o "extend" X.env (eval o X.env) = eval o X.env := by rfl)
    (hfew : ((backTo cpos (starEach [e] X.env)).all (fun x => !x.1) && (backToKw cpos (keywordEach [] X.env)).all (fun x => x.1.isSome) && decide (([e] : List Expr).length + ([] : List Keyword).length + (if ([] : List Keyword).isEmpty then 0 else 1) < 30)) = true := by rfl)
    (hline : (apos.endLine == cpos.line) = true := by rfl) (hs : starEach [e] X.env = (false, eval e X.env) :: starEach [] X.env := by rfl) (hsw : swapsWith (.Call (.Attribute o "extend" apos) [e] [] cpos) none pos.line X.env = pure false := by rfl) :
    QS X pn W (.Expr (.Call (.Attribute o "extend" apos) [e] [] cpos) pos) (sExt p f) :=
  (ps_expr (pe_bm PySem.F.plainAttrs_list PySem.F.slot_list_extend PySem.F.type_list_extend mt_extend ho (pa_cons he pa_nil hs) hbase hfew hline hs) hsw).weak fun D σ H ⟨A, F, N, ρ, out, r, hf, q⟩ => by
    obtain ⟨e0, h0, hf⟩ := bindS hf
    obtain ⟨d, hd, hf⟩ := bindS hf
    obtain ⟨e', he', hf⟩ := bindS hf
    obtain ⟨ρ2, h2, rfl⟩ := mapS hf
    unfold extE at he'
    split at he'
    · split at he'
      rename_i ds xs _ hl
      cases he'
      obtain ⟨v, fp, hv, ov⟩ := r.ref h0
      cases ov with
      | @fl l vs _ hla ht =>
        refine ⟨_, hv, .inl ⟨rfl, _, SqL.of hla⟩, H, ρ, _, r.rv, hd, fun u H1 Z1 g1 du => ?_⟩
        have r1 := r.mono g1.h
        obtain ⟨v2, mid, gp, hv2, ov2, tg, nd, k⟩ := r1.change h0
        have e2 := hv.inj g1.h hv2
        subst e2
        cases tg
        cases ov2 with
        | fl hla2 ht2 =>
          cases du with
          | lst hb tb =>
            refine ⟨l, _, _, _, rfl, rfl, hla2, g1.s _ _ hb, by rw [ht2.length, tb.length]; exact hl.1, ?_⟩
            obtain ⟨ρ3, hs3, r3⟩ := k _ (.fl (ds ++ xs)) [l] [] [] [] (fun b hb => upd_ne fun e => hb (by simp [e])) (.fl upd_same (ht2.append (tb.sc hl.2))) .nil (by simp) (fun b hb => by simpa using hb)
            rw [h2] at hs3
            cases hs3
            exact q F N _ σ Stp.refl r3
      · cases he'
    · cases he'
end Qs
namespace Qs
open PySem PySem.Spec PyProof.Rows L2
variable [CTab]
variable {X : Cx} {K : PySem.W.Frag} {F N H F' N' H' A : Hp} {pn : List (Nat × V)} {W : WX} {a b c e : Expr} {pos p2 : Pos} {σ : L2.St} {ρ : En}
/-! ### methods -/
structure MetR (P : Program) (w : World) (K : PySem.W.Frag) (mg : Str → Option Value) (base : Heap) (CX : CXT) (k : Nat) (c : Nat) (m : Str) (g : Fn) : Prop where
  ex : ∃ f fd ps, FnOk P w K mg base CX k f fd ps (spM K g) ∧ Cls K (CTab.addr c) ∧ Meth K (CTab.addr c) m f ∧ Binds K fd ps []
  no : m ∉ CTab.names c
theorem lookup_no {α : Type} {n : Str} : ∀ {fs : List (Str × α)}, n ∉ fs.map (·.1) → fs.lookup n = none
  | [], _ => rfl
  | (x, y) :: fs, h => by
    simp only [List.map_cons, List.mem_cons, not_or] at h
    rw [List.lookup_cons, beq_eq_false_iff_ne.mpr h.1]
    exact lookup_no h.2
theorem no_field {c m : Nat} {x : Str} {fs : List (Str × V)} (no : x ∉ CTab.names c) (h : fs.map (·.1) = (CTab.names c).take m) : fs.lookup x = none := lookup_no fun hm => no (List.mem_of_mem_take (by rw [h] at hm; exact hm))
def pM (c : Nat) (g : Fn) (f : En → Option Dt) (fa : En → Option (List Dt)) : En → Option Dt := fun ρ => (f ρ).bind fun x => (fa ρ).bind fun xs => match x with | .ob c' ds => if c' = c then cP g (.ob c ds :: xs) else none | _ => none
def eM (c : Nat) (g : Fn) (f : En → Option Dt) (fa : En → Option (List Dt)) : En → Option Et := fun ρ => (f ρ).bind fun x => (fa ρ).bind fun xs => match x with | .ob c' ds => if c' = c then cE g (.ob c ds :: xs) else none | _ => none
variable {CX : CXT} {k j cc : Nat} {x : Str} {gF : Fn}
theorem tMeth_p {f : En → Option Dt} {fa : En → Option (List Dt)} {E : XK} (no : x ∉ CTab.names cc) (σ : L2.St) (H : Hp) (Q : VK) (q : tP K (pM cc gF f fa) σ H Q) : tMeth (CTab.addr cc) x (spM K gF) [] E (tP K f) (tPs K fa) σ H Q := by
  obtain ⟨Z, ρ, d, r, hf, kk⟩ := q
  obtain ⟨xo, hx, hf⟩ := bindS hf
  obtain ⟨xs, hxs, hf⟩ := bindS hf
  refine ⟨Z, ρ, xo, r, hx, fun v H1 Z1 g1 d1 => ?_⟩
  cases d1 with
  | @ob a dx c' fs ds h hn t =>
    have hf' : (if c' = cc then cP gF (.ob cc ds :: xs) else none) = some d := hf
    split at hf'
    · rename_i hc
      subst hc
      refine ⟨a, dx, fs, rfl, g1.s _ _ h, no_field no hn, Z1, ρ, xs, r.gr g1, hxs, fun vs H2 Z2 g2 d2 => ?_⟩
      show spM K gF (.ref a :: (vs ++ [])) H2 Q E
      rw [List.append_nil]
      unfold cP at hf'
      split at hf'
      · rename_i r' es' he
        cases hf'
        exact ⟨H2, Z2, none_, _, _, rp_args (vs := .ref a :: vs) (ds := .ob c' ds :: xs) g2.s (.cons ((Dat.ob h hn t).mono g2.z) d2), he, fun v H' F' N' st R => by
          obtain ⟨Z', g, dv⟩ := rp_back g2.s st R
          exact kk v H' Z' ((g1.trans g2).trans g) dv⟩
      · cases hf'
    · cases hf'
  | _ => cases hf
theorem tMeth_e {f : En → Option Dt} {fa : En → Option (List Dt)} {E : XK} (no : x ∉ CTab.names cc) (σ : L2.St) (H : Hp) (Q : VK) (q : tE K pn (eM cc gF f fa) σ H Q) : tMeth (CTab.addr cc) x (spM K gF) [] E (tP K f) (tPs K fa) σ H Q := by
  obtain ⟨A, F, N, ρ, er, R, hf, kk⟩ := q
  obtain ⟨xo, hx, hf⟩ := bindS hf
  obtain ⟨xs, hxs, hf⟩ := bindS hf
  refine ⟨H, ρ, xo, R.rv, hx, fun v H1 Z1 g1 d1 => ?_⟩
  cases d1 with
  | @ob a dx c' fs ds h hn t =>
    have hf' : (if c' = cc then cE gF (.ob cc ds :: xs) else none) = some er := hf
    split at hf'
    · rename_i hc
      subst hc
      refine ⟨a, dx, fs, rfl, g1.s _ _ h, no_field no hn, Z1, ρ, xs, R.rv.gr g1, hxs, fun vs H2 Z2 g2 d2 => ?_⟩
      show spM K gF (.ref a :: (vs ++ [])) H2 Q E
      rw [List.append_nil]
      unfold cE at hf'
      split at hf'
      · rename_i r' es' he
        split at hf'
        · rename_i ho
          cases hf'
          refine ⟨H2, Z2, none_, _, _, rp_args (vs := .ref a :: vs) (ds := .ob c' ds :: xs) g2.s (.cons ((Dat.ob h hn t).mono g2.z) d2), he, fun v H' F' N' st C => ?_⟩
          obtain ⟨F2, N2, st2, R2⟩ := rp_adopt R (g1.h.trans g2.h) st C ho
          exact kk v H' F2 N2 ((g1.h.trans g2.h).trans C.sA) st2 R2
        · cases hf'
      · cases hf'
    · cases hf'
  | _ => cases hf
section
variable {o : Expr} {es : List Expr} {apos : Pos} {f : En → Option Dt} {fa : En → Option (List Dt)}
theorem q_meth {pl : Sem Bool} (c : MetR X.prog X.w X.K X.mg X.base CX k cc x gF) (m : Mute X.prog X.w CX) (hr : Room j X.A) (ho : QP X o f) (ha : QPs X (e :: es) fa) (hk : k ≤ j := by decide)
    (hst : starEach (e :: es) X.env = (false, eval e X.env) :: starEach es X.env := by rfl) (hpl : (backTo pos (starEach es X.env)).any (·.1) = false := by rfl)
    (ht : eval (.Call (.Attribute o x apos) (e :: es) [] pos) X.env = (do
      let ov ← eval o X.env
      standAt apos.atName
      let (f, first) ← holding [ov] (getMethod ov x pl)
      callWith pos f first (backTo pos (starEach (e :: es) X.env)) (backToKw pos (keywordEach [] X.env))) := by rfl) : QP X (.Call (.Attribute o x apos) (e :: es) [] pos) (pM cc gF f fa) := by
  obtain ⟨fa', fd, ps, F, cl, mt, bn⟩ := c.ex
  exact (pe_meth ho cl mt F (hr.mono hk) bn .nil m.passes ha hst hpl ht).weak (tMeth_p c.no)
theorem q_meth0 {pl : Sem Bool} (c : MetR X.prog X.w X.K X.mg X.base CX k cc x gF) (m : Mute X.prog X.w CX) (hr : Room j X.A) (ho : QP X o f) (hk : k ≤ j := by decide)
    (ht : eval (.Call (.Attribute o x apos) [] [] pos) X.env = (do
      let ov ← eval o X.env
      standAt apos.atName
      let (f, first) ← holding [ov] (getMethod ov x pl)
      callWith pos f first (backTo pos (starEach [] X.env)) (backToKw pos (keywordEach [] X.env))) := by rfl) : QP X (.Call (.Attribute o x apos) [] [] pos) (pM cc gF f aNil) := by
  obtain ⟨fa', fd, ps, F, cl, mt, bn⟩ := c.ex
  refine (pe_meth0 ho cl mt F (hr.mono hk) bn .nil m.passes ht).weak fun σ H Q q => ?_
  obtain h := tMeth_p (E := E0) c.no σ H Q q
  obtain ⟨Z, ρ, d, r, hf, kk⟩ := h
  refine ⟨Z, ρ, d, r, hf, fun v H1 Z1 g1 d1 => ?_⟩
  obtain ⟨a, dx, fs, e1, e2, e3, Z2, ρ2, ds, r2, h2, k2⟩ := kk v H1 Z1 g1 d1
  cases h2
  exact ⟨a, dx, fs, e1, e2, e3, k2 [] H1 Z2 (Gr.refl r2.s) .nil⟩
theorem e_meth {pl : Sem Bool} (c : MetR X.prog X.w X.K X.mg X.base CX k cc x gF) (m : Mute X.prog X.w CX) (hr : Room j X.A) (ho : QP X o f) (ha : QPs X (e :: es) fa) (hk : k ≤ j := by decide)
    (hst : starEach (e :: es) X.env = (false, eval e X.env) :: starEach es X.env := by rfl) (hpl : (backTo pos (starEach es X.env)).any (·.1) = false := by rfl)
    (ht : eval (.Call (.Attribute o x apos) (e :: es) [] pos) X.env = (do
      let ov ← eval o X.env
      standAt apos.atName
      let (f, first) ← holding [ov] (getMethod ov x pl)
      callWith pos f first (backTo pos (starEach (e :: es) X.env)) (backToKw pos (keywordEach [] X.env))) := by rfl) : QE X pn (.Call (.Attribute o x apos) (e :: es) [] pos) (eM cc gF f fa) := by
  obtain ⟨fa', fd, ps, F, cl, mt, bn⟩ := c.ex
  exact (pe_meth ho cl mt F (hr.mono hk) bn .nil m.passes ha hst hpl ht).weak (tMeth_e c.no)
theorem e_meth0 {pl : Sem Bool} (c : MetR X.prog X.w X.K X.mg X.base CX k cc x gF) (m : Mute X.prog X.w CX) (hr : Room j X.A) (ho : QP X o f) (hk : k ≤ j := by decide)
    (ht : eval (.Call (.Attribute o x apos) [] [] pos) X.env = (do
      let ov ← eval o X.env
      standAt apos.atName
      let (f, first) ← holding [ov] (getMethod ov x pl)
      callWith pos f first (backTo pos (starEach [] X.env)) (backToKw pos (keywordEach [] X.env))) := by rfl) : QE X pn (.Call (.Attribute o x apos) [] [] pos) (eM cc gF f aNil) := by
  obtain ⟨fa', fd, ps, F, cl, mt, bn⟩ := c.ex
  refine (pe_meth0 ho cl mt F (hr.mono hk) bn .nil m.passes ht).weak fun σ H Q q => ?_
  obtain h := tMeth_e (E := E0) c.no σ H Q q
  obtain ⟨Z, ρ, d, r, hf, kk⟩ := h
  refine ⟨Z, ρ, d, r, hf, fun v H1 Z1 g1 d1 => ?_⟩
  obtain ⟨a, dx, fs, e1, e2, e3, Z2, ρ2, ds, r2, h2, k2⟩ := kk v H1 Z1 g1 d1
  cases h2
  exact ⟨a, dx, fs, e1, e2, e3, k2 [] H1 Z2 (Gr.refl r2.s) .nil⟩
end
/-! ### a place is lent to a call, data beside it -/
def offH (H : Hp) (mid : List Addr) : Hp := fun a => if a ∈ mid then none else H a
theorem off_same {mid : List Addr} : Same (offH H mid) H := fun a o h => by
  unfold offH at h
  split at h
  · cases h
  · exact h
theorem off_at {mid : List Addr} {a : Addr} (h : a ∉ mid) : offH H mid a = H a := if_neg h
theorem OwnS.at {fp : List Addr} {i : Nat} {e : Et} (h : OwnS K F N H σ ρ fp) (hi : ρ[i]? = some (some e)) : ∃ v fq, σ[i]? = some (some v) ∧ Own K F N H v e fq ∧ ∀ a ∈ fq, a ∈ fp := by
  obtain ⟨pre, mid, post, rfl, f1, f2, f3⟩ := h.focus hi
  obtain ⟨v, a, b⟩ := f1 e rfl
  exact ⟨v, mid, a, b, fun x hx => by simp [hx]⟩
/-- the place p is lent, all else is alien meanwhile; data vs beside it -/
theorem Rp.lend {p : Pl} {e : Et} (r : Rp K A F N H pn σ ρ [] []) (hp : getP p ρ = some e) : ∃ v mid, RefP σ H p v ∧ Own K F N H v e mid ∧ Rv K (offH H mid) H σ (ρ.set (plSlot p) none) ∧
    ∀ (H2 Z2 : Hp) (vs : List V) (ds : List Dt), Gr (offH H mid) H Z2 H2 → Dats K Z2 vs ds → ∃ A' F1, Rp K A' F1 N H2 [] [] [] (v :: vs) (e :: ds.map .o) ∧
      ∀ (F2 N2 H3 : Hp) (us : List V) (rs : List Et) (e' : Et) (es' : List Et), Stp F1 N F2 N2 → Rp K A' F2 N2 H3 [] [] [] (us ++ v :: vs) (rs ++ e' :: es') → us.length = rs.length → owns rs = true → Qs.own e' = true →
        ∃ ρ' F3, setP p e' ρ = some ρ' ∧ Stp F N F3 N2 ∧ Rp K A F3 N2 H3 pn σ ρ' us rs := by
  obtain ⟨fp, gp, h1, h2, h3, h4⟩ := r.own
  cases h2
  rw [List.append_nil] at h3 h4
  obtain ⟨v, pre, mid, post, hv, rfl, ho, k, fq, hid, hfq⟩ := h1.place hp
  obtain ⟨n1, n2, n3⟩ := List.nodup_append.mp h3
  obtain ⟨m1, m2, m3⟩ := List.nodup_append.mp n1
  have hmid : ∀ a ∈ mid, A a = none ∧ N a = none := fun a ha => h4 a (by simp [ha])
  have off : ∀ b ∈ pre ++ post, b ∉ mid := fun b hb hm => by
    rcases List.mem_append.mp hb with z | z
    · exact m3 b z b hm rfl
    · exact n3 b (by simp [hm]) b z rfl
  have Foff : ∀ a o, F a = some o → a ∉ mid := fun a o h hm => by
    rcases r.fA a o h with z | z
    · rw [(hmid a hm).1] at z; cases z
    · rw [(hmid a hm).2] at z; cases z
  have sFo : Same F (offH H mid) := fun a o h => by rw [off_at (Foff a o h)]; exact r.sF a o h
  have sNo : Same N (offH H mid) := r.nF.trans sFo
  refine ⟨v, mid, hv, ho, ⟨off_same, by rw [hid.len], fun i e0 he => ?_⟩, fun H2 Z2 vs ds g t => ?_⟩
  · obtain ⟨u, fu, hu, ou, su⟩ := hid.at he
    exact ⟨u, hu, ou.dat sFo sNo fun a ha o h => by rw [off_at (off a (hfq a (su a ha)))]; exact h⟩
  · have ht := ho.tracked
    have e2 : ∀ a ∈ mid, H2 a = H a := fun a ha => same_at g.h (ht a ha)
    have Noff : ∀ a o, N a = some o → a ∉ mid := fun a o h hm => by rw [(hmid a hm).2] at h; cases h
    let A' : Hp := fun a => if a ∈ mid then none else if N a = none then H2 a else none
    have a1 : ∀ a, a ∉ mid → N a = none → A' a = H2 a := fun a h1 h2 => by show (if a ∈ mid then none else if N a = none then H2 a else none) = _; rw [if_neg h1, if_pos h2]
    have a2 : ∀ a o, A' a = some o → a ∉ mid ∧ N a = none ∧ H2 a = some o := fun a o h => by
      have h : (if a ∈ mid then none else if N a = none then H2 a else none) = some o := h
      split at h
      · cases h
      · rename_i h1
        split at h
        · rename_i h2; exact ⟨h1, h2, h⟩
        · cases h
    have sN2 : Same N H2 := r.sN.trans g.h
    have Z2off : ∀ a o, Z2 a = some o → a ∉ mid := fun a o h hm => by
      rcases g.n a o h with z | z
      · unfold offH at z
        rw [if_pos hm] at z
        cases z
      · obtain ⟨u, hu⟩ := ht a hm
        rw [z] at hu; cases hu
    have args : ∀ {vs : List V} {ds : List Dt}, Dats K Z2 vs ds → Owns K (offH H2 mid) N H2 vs (ds.map .o) [] := fun {vs ds} t => by
      have t' : Dats K (offH H2 mid) vs ds := t.mono fun a o h => by rw [off_at (Z2off a o h)]; exact g.s a o h
      clear t
      induction ds generalizing vs with
      | nil => cases t'; exact .nil
      | cons d ds ih =>
        cases t' with
        | cons h t => exact .cons (fp := []) (.o h) (ih t)
    have sF2 : Same F (offH H2 mid) := fun a o h => by rw [off_at (Foff a o h)]; exact g.h a o (r.sF a o h)
    refine ⟨A', offH H2 mid, ⟨⟨[], mid ++ [], .nil, .cons (ho.frame sF2 (Same.refl _) e2) (args t), by simpa using m2, fun a ha => ?_⟩, fun a o h => (a2 a o h).2.2, sN2, fun a o h => ?_, fun a o h => ?_, fun a o h => ?_, fun p h => by cases h⟩, fun F2 N2 H3 us rs e' es' st R hl hos hoe => ?_⟩
    · have ha : a ∈ mid := by simpa using ha
      refine ⟨?_, (hmid a ha).2⟩
      show (if a ∈ mid then none else if N a = none then H2 a else none) = none
      rw [if_pos ha]
    · cases q : A' a with
      | none => rfl
      | some u => rw [(a2 a u q).2.1] at h; cases h
    · rw [off_at (Noff a o h)]; exact sN2 a o h
    · have hn : a ∉ mid := fun hm => by unfold offH at h; rw [if_pos hm] at h; cases h
      rw [off_at hn] at h
      cases q : N a with
      | none => exact .inl (by rw [a1 a hn q]; exact h)
      | some u =>
        have := sN2 a u q
        rw [h] at this
        exact .inr (by rw [this])
    · -- back
      obtain ⟨f0, g0, k1, k2, k3, k4⟩ := R.own
      cases k1
      rw [List.nil_append] at k3 k4
      obtain ⟨gr, g1, rfl, or, o1⟩ := k2.split hl
      cases o1 with
      | cons oe orest =>
        rename_i me grest
        obtain ⟨b1, b2, b3⟩ := List.nodup_append.mp k3
        obtain ⟨c1, c2, c3⟩ := List.nodup_append.mp b2
        have h23 : ∀ b, b ∉ mid → N b = none → ∀ o, H2 b = some o → H3 b = some o := fun b h1 h2 o h => R.sA b o (by rw [a1 b h1 h2]; exact h)
        have sNN : Same N N2 := st.sN
        have sHN : Same N H3 := sNN.trans R.sN
        have sFH3 : Same F H3 := fun a o h => by
          rcases r.fA a o h with z | z
          · cases q : N a with
            | none => exact h23 a (Foff a o h) q o (g.h a o (r.sF a o h))
            | some u =>
              have := r.nA a u q
              rw [z] at this; cases this
          · exact sHN a o z
        have cons : ∀ a o u, F a = some o → N2 a = some u → o = u := fun a o u p q => by
          have e1 := sFH3 a o p
          rw [R.sN a u q] at e1
          exact (Option.some.inj e1).symm
        have hpp : ∀ b ∈ pre ++ post, N b = none ∧ A b = none ∧ ∃ o, H b = some o := fun b hb => by
          have hb' : b ∈ pre ++ mid ++ post := by rcases List.mem_append.mp hb with z | z <;> simp [z]
          exact ⟨(h4 b hb').2, (h4 b hb').1, h1.tracked b hb'⟩
        have keep : ∀ b ∈ pre ++ post, H3 b = H b := fun b hb => by
          obtain ⟨q1, _, o, e⟩ := hpp b hb
          rw [e]
          exact h23 b (off b hb) q1 o (g.h b o e)
        have Apos : ∀ b ∈ pre ++ post, ∃ o, A' b = some o := fun b hb => by
          obtain ⟨q1, _, o, e⟩ := hpp b hb
          exact ⟨o, by rw [a1 b (off b hb) q1]; exact g.h b o e⟩
        have AA : ∀ b, A' b = none → A b = none := fun b h => by
          cases q : A b with
          | none => rfl
          | some o =>
            have nm : b ∉ mid := fun hm => by rw [(hmid b hm).1] at q; cases q
            have nn : N b = none := by
              cases q2 : N b with
              | none => rfl
              | some u =>
                have := r.nA b u q2
                rw [q] at this; cases this
            rw [a1 b nm nn, g.h b o (r.sA b o q)] at h
            cases h
        obtain ⟨ρ', hs, o2⟩ := k (join F N2) N2 H3 e' me join_l sNN keep (oe.noF (Same.refl _) hoe fun _ _ => rfl)
        refine ⟨ρ', join F N2, hs, ⟨sNN, join_l, fun a o h => join_of h⟩, ⟨⟨_, gr, o2, or.noF (Same.refl _) hos fun _ _ => rfl, ?_, fun b hb => ?_⟩, fun a o h => ?_, R.sN, fun a o h => AA a (R.nA a o h), join_r cons, fun a o h => ?_, r.pin⟩⟩
        · have d1 : ∀ b ∈ pre ++ post, b ∉ me ∧ b ∉ gr := fun b hb => by
            obtain ⟨o, e⟩ := Apos b hb
            refine ⟨fun z => ?_, fun z => ?_⟩
            · have := (k4 b (by simp [z])).1
              rw [e] at this; cases this
            · have := (k4 b (by simp [z])).1
              rw [e] at this; cases this
          refine List.nodup_append.mpr ⟨nodup_repl h3 c1 fun b hb => .inr ⟨fun z => (d1 b (by simp [z])).1 hb, fun z => (d1 b (by simp [z])).1 hb⟩, b1, fun x hx y hy e => ?_⟩
          subst e
          simp only [List.mem_append] at hx
          rcases hx with (z | z) | z
          · exact (d1 x (by simp [z])).2 hy
          · exact b3 x hy x (by simp [z]) rfl
          · exact (d1 x (by simp [z])).2 hy
        · simp only [List.mem_append] at hb
          have hN2 : ∀ b ∈ pre ++ post, N2 b = none := fun b hb => by
            obtain ⟨o, e⟩ := Apos b hb
            cases q : N2 b with
            | none => rfl
            | some u =>
              have := R.nA b u q
              rw [e] at this; cases this
          rcases hb with ((z | z) | z) | z
          · exact ⟨(hpp b (by simp [z])).2.1, hN2 b (by simp [z])⟩
          · have := k4 b (by simp [z]); exact ⟨AA b this.1, this.2⟩
          · exact ⟨(hpp b (by simp [z])).2.1, hN2 b (by simp [z])⟩
          · have := k4 b (by simp [z]); exact ⟨AA b this.1, this.2⟩
        · have nm : a ∉ mid := fun hm => by rw [(hmid a hm).1] at h; cases h
          have nn : N a = none := by
            cases q2 : N a with
            | none => rfl
            | some u =>
              have := r.nA a u q2
              rw [h] at this; cases this
          exact h23 a nm nn o (g.h a o (r.sA a o h))
        · rcases join_of h with z | z
          · exact (r.fA a o z).imp id (sNN a o)
          · exact .inr z
end Qs
namespace Qs
open PySem PySem.Spec PyProof.Rows L2
variable [CTab]
variable {X : Cx} {K : PySem.W.Frag} {F N H F' N' H' A : Hp} {pn : List (Nat × V)} {W : WX} {a b c e : Expr} {pos p2 : Pos} {σ : L2.St} {ρ : En}
variable {CX : CXT} {k j cc : Nat} {x : Str} {gF : Fn}
/-- place.m(data): what is owned at the place changes -/
def lentOk (p : Pl) (ρ : En) : Fz → Option Rz
  | .ok r (e' :: _) => if own r = true ∧ own e' = true then (setP p e' ρ).map (.ok r) else none
  | .ex C i (e' :: _) => if own e' = true then (setP p e' ρ).map (.ex C i) else none
  | _ => none
def notEx : Fz → Bool | .ok _ _ => true | .ex _ _ _ => false
def obOk (c : Nat) (p : Pl) (ρ : En) (z : Fz) : Et → Option Rz
  | .ob c' _ => if c' = c then lentOk p ρ z else none
  | _ => none
def mMeth (p : Pl) (c : Nat) (g : Fn) (fa : En → Option (List Dt)) : Mm := fun ρ => (getP p ρ).bind fun e => (fa (ρ.set (plSlot p) none)).bind fun xs => (g (e :: xs.map .o)).bind fun z => obOk c p ρ z e
def mNoex (m : Mm) : Mm := fun ρ => (m ρ).bind fun z => match z with | .ok r ρ' => some (.ok r ρ') | _ => none
theorem tMeth_m {p : Pl} {fa : En → Option (List Dt)} {E : XK} (no : x ∉ CTab.names cc) (hE : ∀ c d σ H, W c d σ H → E c d H) (σ : L2.St) (H : Hp) (Q : VK) (q : tM K pn W (mMeth p cc gF fa) σ H Q) : tMeth (CTab.addr cc) x (spM K gF) [] E (tRef p) (tPs K fa) σ H Q := by
  obtain ⟨A, F, N, ρ, z, r, hf, kk⟩ := q
  obtain ⟨e, he, hf⟩ := bindS hf
  obtain ⟨xs, hxs, hf⟩ := bindS hf
  obtain ⟨y, hy, hf⟩ := bindS hf
  unfold obOk at hf
  split at hf
  · split at hf
    rename_i hc
    have hf' : lentOk p ρ y = some z := hf
    subst hc
    obtain ⟨v, mid, hv, ho, rv, lend⟩ := r.lend he
    refine ⟨v, hv, ?_⟩
    cases ho with
    | @ob a dx _ fs _ fq ha hn t =>
      refine ⟨a, dx, fs, rfl, ha, no_field no hn, _, _, xs, rv, hxs, fun vs H2 Z2 g t => ?_⟩
      show spM K gF (.ref a :: (vs ++ [])) H2 Q E
      rw [List.append_nil]
      obtain ⟨A', F1, R, back⟩ := lend H2 Z2 vs xs g t
      refine ⟨A', F1, N, _, y, R, hy, ?_⟩
      cases y with
      | ok r' es' =>
        intro u H3 F2 N2 st R3
        cases es' with
        | nil => cases hf'
        | cons e' es' =>
          have hf2 : (if own r' = true ∧ own e' = true then (setP p e' ρ).map (Rz.ok r') else none) = some z := hf'
          split at hf2
          · rename_i hoo
            obtain ⟨ρ2, h2, rfl⟩ := mapS hf2
            obtain ⟨ρ3, F3, h3, st3, R4⟩ := back F2 N2 H3 [u] [r'] e' es' st R3 rfl (by rw [owns, owns, hoo.1]; rfl) hoo.2
            rw [h2] at h3
            cases h3
            exact kk F3 N2 H3 st3 u R4
          · cases hf2
      | ex C i es' =>
        intro d H3 F2 N2 st R3 hd
        cases es' with
        | nil => cases hf'
        | cons e' es' =>
          have hf2 : (if own e' = true then (setP p e' ρ).map (Rz.ex C i) else none) = some z := hf'
          split at hf2
          · rename_i hoo
            obtain ⟨ρ2, h2, rfl⟩ := mapS hf2
            obtain ⟨ρ3, F3, h3, st3, R4⟩ := back F2 N2 H3 [] [] e' es' st R3 rfl rfl hoo
            rw [h2] at h3
            cases h3
            exact hE _ _ _ _ (kk F3 N2 H3 st3 d R4 hd)
          · cases hf2
    · cases hf
  · cases hf
theorem tM_noex {m : Mm} (q : tM K pn W (mNoex m) σ H Q) : tM K pn (fun _ _ _ _ => False) m σ H Q := by
  obtain ⟨A, F, N, ρ, z, r, hf, kk⟩ := q
  obtain ⟨z', hz, hf⟩ := bindS hf
  cases z' with
  | ok r' ρ' =>
    cases hf
    exact ⟨A, F, N, ρ, _, r, hz, fun F' N' H' st v R => kk F' N' H' st v R⟩
  | ex C i ρ' => cases hf
section
variable {o : Expr} {es : List Expr} {apos : Pos} {p : Pl} {fa : En → Option (List Dt)}
theorem m_meth {pl : Sem Bool} (c : MetR X.prog X.w X.K X.mg X.base CX k cc x gF) (m : Mute X.prog X.w CX) (hr : Room j X.A) (ho : QL X o p) (ha : QPs X (e :: es) fa) (hk : k ≤ j := by decide)
    (hst : starEach (e :: es) X.env = (false, eval e X.env) :: starEach es X.env := by rfl) (hpl : (backTo pos (starEach es X.env)).any (·.1) = false := by rfl)
    (ht : eval (.Call (.Attribute o x apos) (e :: es) [] pos) X.env = (do
      let ov ← eval o X.env
      standAt apos.atName
      let (f, first) ← holding [ov] (getMethod ov x pl)
      callWith pos f first (backTo pos (starEach (e :: es) X.env)) (backToKw pos (keywordEach [] X.env))) := by rfl) : QM X pn W (.Call (.Attribute o x apos) (e :: es) [] pos) (mNoex (mMeth p cc gF fa)) := by
  obtain ⟨fa', fd, ps, F, cl, mt, bn⟩ := c.ex
  exact (pe_meth ho cl mt F (hr.mono hk) bn .nil m.passes ha hst hpl ht).weak fun σ H Q q => tMeth_m c.no (fun _ _ _ _ h => h) σ H Q (tM_noex q)
theorem m_methX {pl : Sem Bool} {E : XK} (c : MetR X.prog X.w X.K X.mg X.base CX k cc x gF) (hx : Passes CX X E) (hE : ∀ c d σ H, W c d σ H → E c d H) (hr : Room j X.A) (ho : QL X o p) (ha : QPs X (e :: es) fa) (hk : k ≤ j := by decide)
    (hst : starEach (e :: es) X.env = (false, eval e X.env) :: starEach es X.env := by rfl) (hpl : (backTo pos (starEach es X.env)).any (·.1) = false := by rfl)
    (ht : eval (.Call (.Attribute o x apos) (e :: es) [] pos) X.env = (do
      let ov ← eval o X.env
      standAt apos.atName
      let (f, first) ← holding [ov] (getMethod ov x pl)
      callWith pos f first (backTo pos (starEach (e :: es) X.env)) (backToKw pos (keywordEach [] X.env))) := by rfl) : QM X pn W (.Call (.Attribute o x apos) (e :: es) [] pos) (mMeth p cc gF fa) := by
  obtain ⟨fa', fd, ps, F, cl, mt, bn⟩ := c.ex
  exact (pe_meth ho cl mt F (hr.mono hk) bn .nil hx ha hst hpl ht).weak fun σ H Q q => tMeth_m c.no hE σ H Q q
theorem m_meth0 {pl : Sem Bool} (c : MetR X.prog X.w X.K X.mg X.base CX k cc x gF) (m : Mute X.prog X.w CX) (hr : Room j X.A) (ho : QL X o p) (hk : k ≤ j := by decide)
    (ht : eval (.Call (.Attribute o x apos) [] [] pos) X.env = (do
      let ov ← eval o X.env
      standAt apos.atName
      let (f, first) ← holding [ov] (getMethod ov x pl)
      callWith pos f first (backTo pos (starEach [] X.env)) (backToKw pos (keywordEach [] X.env))) := by rfl) : QM X pn W (.Call (.Attribute o x apos) [] [] pos) (mNoex (mMeth p cc gF aNil)) := by
  obtain ⟨fa', fd, ps, F, cl, mt, bn⟩ := c.ex
  refine (pe_meth0 ho cl mt F (hr.mono hk) bn .nil m.passes ht).weak fun σ H Q q => ?_
  obtain ⟨v, hv, a, dx, fs, e1, e2, e3, Z2, ρ2, ds, r2, h2, k2⟩ := tMeth_m c.no (fun _ _ _ _ h => h) σ H Q (tM_noex q)
  cases h2
  exact ⟨v, hv, a, dx, fs, e1, e2, e3, k2 [] H Z2 (Gr.refl r2.s) .nil⟩
end
/-! ### making an object -/
structure MakR (P : Program) (w : World) (K : PySem.W.Frag) (mg : Str → Option Value) (base : Heap) (CX : CXT) (k : Nat) (x : Str) (c : Nat) (g : Fn) : Prop where
  ex : ∃ f fd ps, FnOk P w K mg base CX k f fd ps (spM K g) ∧ mg x = some (.ref (CTab.addr c)) ∧ Mk K (CTab.addr c) f ∧ Binds K fd ps []
def mkd (c : Nat) (g : Fn) (ds : List Dt) : Option Et := match g (.ob c [] :: ds.map .o) with
  | some (.ok (.n .non) (e :: _)) => if own e = true then some e else none
  | _ => none
def eMk (c : Nat) (g : Fn) (fa : En → Option (List Dt)) : En → Option Et := fun ρ => (fa ρ).bind (mkd c g)
theorem Rp.tail {v : V} {e : Et} {vs : List V} {es : List Et} (r : Rp K A F N H pn σ ρ (v :: vs) (e :: es)) : Rp K A F N H pn σ ρ vs es := by
  obtain ⟨fp, gp, h1, h2, h3, h4⟩ := r.own
  cases h2 with
  | cons h t =>
    rename_i g1 g2
    obtain ⟨n1, n2, n3⟩ := List.nodup_append.mp h3
    exact ⟨⟨fp, g2, h1, t, List.nodup_append.mpr ⟨n1, (List.nodup_append.mp n2).2.1, fun a ha b hb => n3 a ha b (by simp [hb])⟩, fun a ha => h4 a (by rcases List.mem_append.mp ha with z | z <;> simp [z])⟩, r.sA, r.sN, r.nA, r.nF, r.fA, r.pin⟩
theorem e_mk {p : Pos} {es : List Expr} {fa : En → Option (List Dt)} (c : MakR X.prog X.w X.K X.mg X.base CX k x cc gF) (m : Mute X.prog X.w CX) (hr : Room j X.A) (ha : QPs X (e :: es) fa) (hk : k + 1 ≤ j := by decide) (hg : Gl X x := by rfl) (hdb : (x == ("__debug__" : Str)) = false := by decide)
    (he : starEach (e :: es) X.env = (false, eval e X.env) :: starEach es X.env := by rfl) (hpl : (backTo pos (starEach es X.env)).any (·.1) = false := by rfl) : QE X pn (.Call (.Name x p) (e :: es) [] pos) (eMk cc gF fa) := by
  obtain ⟨fa', fd, ps, F, hm, M, bn⟩ := c.ex
  refine (pe_make M F (hr.mono hk) hg hm bn .nil m.passes ha hdb he hpl).weak fun σ H Q ⟨A, F, N, ρ, er, R, hf, kk⟩ => ?_
  obtain ⟨ds, hd, hf⟩ := bindS hf
  refine ⟨H, ρ, ds, R.rv, hd, fun vs H1 Z1 g t y dx ny nd ne => ?_⟩
  show spM X.K gF (.ref y :: (vs ++ [])) _ _ E0
  rw [List.append_nil]
  unfold mkd at hf
  split at hf
  · rename_i eo es' he'
    split at hf
    · rename_i hoo
      cases hf
      have Rd := rp_args g.s t
      have s1 : Same H1 (upd (upd H1 dx (.own y)) y (.ins (CTab.addr cc) dx [])) := fun a o h => by
        rw [upd_ne (ne_of_none h ny), upd_ne (ne_of_none h nd)]
        exact h
      obtain ⟨fp, gp, k1, k2, k3, k4⟩ := (Rd.mono s1).own
      cases k1
      rw [List.nil_append] at k3 k4
      have gpH : ∀ a ∈ gp, a ≠ y := fun a ha e => by
        obtain ⟨fp0, gp0, j1, j2, j3, j4⟩ := Rd.own
        have : gp = [] := by
          have q : ∀ {vs : List V} {ds : List Dt} {gp : List Addr} {Hx : Hp}, Owns X.K Z1 none_ Hx vs (ds.map .o) gp → gp = [] := fun {vs ds gp Hx} t => by
            induction ds generalizing vs gp with
            | nil => cases t; rfl
            | cons d ds ih =>
              cases t with
              | cons h t =>
                cases h
                exact ih t
          exact q k2
        rw [this] at ha
        cases ha
      refine ⟨H1, Z1, none_, _, _, ⟨⟨[], y :: ([] ++ gp), .nil, .cons (fp := [y]) (.ob upd_same rfl .nil) k2, ?_, fun a ha => ?_⟩, s1, same_none, (fun _ _ h => by cases h), same_none, (fun a o h => .inl (g.s a o h)), (fun _ h => by cases h)⟩, he', fun u H' F' N' st C => ?_⟩
      · simp only [List.nil_append]
        exact List.nodup_cons.mpr ⟨fun hb => gpH y hb rfl, k3⟩
      · simp only [List.nil_append, List.mem_cons] at ha
        rcases ha with z | z
        · subst z; exact ⟨ny, rfl⟩
        · exact k4 a z
      · have du := C.datT
        cases du
        obtain ⟨F2, N2, st2, R2⟩ := rp_adopt R g.h st C.tail hoo
        exact ⟨rfl, kk _ H' F2 N2 (g.h.trans C.sA) st2 R2⟩
    · cases hf
  · cases hf
/-! ### names given away, taken apart -/
/-- a name's thing is handed on, the name forgotten -/
def mMv (i : Nat) : Mm := fun ρ => (getS i ρ).map fun e => .ok e (ρ.set i none)
theorem Rp.move {i : Nat} {e : Et} (r : Rp K A F N H pn σ ρ [] []) (hi : getS i ρ = some e) : ∃ v, σ[i]? = some (some v) ∧ Rp K A F N H pn σ (ρ.set i none) [v] [e] := by
  obtain ⟨fp, gp, h1, h2, h3, h4⟩ := r.own
  cases h2
  rw [List.append_nil] at h3 h4
  have hi' : ρ[i]? = some (some e) := by
    unfold getS at hi
    split at hi
    · cases hi; assumption
    · cases hi
  obtain ⟨pre, mid, post, rfl, f1, f2, f3⟩ := h1.focus hi'
  obtain ⟨v, hv, ho⟩ := f1 e rfl
  have t := f3 F N H (some v) none [] (Same.refl _) (Same.refl _) (fun _ _ => rfl) (.inl ⟨rfl, rfl⟩)
  rw [set_self hv] at t
  obtain ⟨n1, n2, n3⟩ := List.nodup_append.mp h3
  obtain ⟨m1, m2, m3⟩ := List.nodup_append.mp n1
  refine ⟨v, hv, ⟨_, mid ++ [], t, .cons ho .nil, ?_, fun a ha => h4 a ?_⟩, r.sA, r.sN, r.nA, r.nF, r.fA, r.pin⟩
  · simp only [List.append_nil]
    refine List.nodup_append.mpr ⟨List.nodup_append.mpr ⟨m1, n2, fun a ha b hb => n3 a (by simp [ha]) b hb⟩, m2, fun a ha b hb e => ?_⟩
    subst e
    rcases List.mem_append.mp ha with z | z
    · exact m3 a z a hb rfl
    · exact n3 a (by simp [hb]) a z rfl
  · simp only [List.append_nil, List.mem_append] at ha ⊢
    rcases ha with (z | z) | z <;> simp [z]
theorem m_mv {i : Nat} {x : Str} (hN : X.N[i]? = some x := by rfl) (hv : Vis X.env.scope x := by first | exact Or.inl rfl | exact Or.inr (Or.inl rfl) | exact Or.inr (Or.inr rfl)) (hd : (x == ("__debug__" : Str)) = false := by decide) (hcd : (x == ("__classdict__" : Str)) = false := by decide) : QM X pn W (.Name x pos) (mMv i) :=
  (pe_var hN hv hd hcd).weak fun σ H Q ⟨A, F, N, ρ, z, r, hf, k⟩ => by
    obtain ⟨e, he, rfl⟩ := mapS hf
    obtain ⟨v, hv, r'⟩ := r.move he
    exact ⟨v, hv, k F N H Stp.refl v r'⟩
/-- the first temp is stored -/
theorem Rp.store1 {i : Nat} {v : V} {e : Et} {vs : List V} {es : List Et} (r : Rp K A F N H pn σ ρ (v :: vs) (e :: es)) (hi : i < ρ.length) (hp : ∀ p ∈ pn, p.1 ≠ i) : Rp K A F N H pn (σ.set i (some v)) (ρ.set i (some e)) vs es := by
  obtain ⟨fp, gp, h1, h2, h3, h4⟩ := r.own
  cases h2 with
  | cons h t =>
    rename_i g1 g2
    obtain ⟨pre, mid, post, rfl, f1, f2, f3⟩ := h1.focus (List.getElem?_eq_getElem hi)
    have s' := f3 F N H (some v) (some e) g1 (Same.refl _) (Same.refl _) (fun _ _ => rfl) (.inr ⟨v, e, rfl, rfl, h⟩)
    obtain ⟨n1, n2, n3⟩ := List.nodup_append.mp h3
    obtain ⟨m1, m2, m3⟩ := List.nodup_append.mp n2
    refine ⟨⟨_, g2, s', t, ?_, fun a ha => h4 a ?_⟩, r.sA, r.sN, r.nA, r.nF, r.fA, fun p q => ?_⟩
    · refine List.nodup_append.mpr ⟨nodup_repl n1 m1 fun a ha => .inr ⟨fun hb => n3 a (by simp [hb]) a (by simp [ha]) rfl, fun hb => n3 a (by simp [hb]) a (by simp [ha]) rfl⟩, m2, fun a ha b hb e => ?_⟩
      subst e
      simp only [List.mem_append] at ha
      rcases ha with (z | z) | z
      · exact n3 a (by simp [z]) a (by simp [hb]) rfl
      · exact m3 a z a hb rfl
      · exact n3 a (by simp [z]) a (by simp [hb]) rfl
    · simp only [List.mem_append] at ha ⊢
      rcases ha with ((z | z) | z) | z <;> simp [z]
    · rw [List.getElem?_set_ne (Ne.symm (hp p q))]
      exact r.pin p q
/-- a tuple's things -/
def kids : Et → Option (List Et)
  | .tup es => some es
  | .n (.tup ds) => some (ds.map .n)
  | .o (.tup ds) => some (ds.map lf)
  | _ => none
theorem Rp.kids {v : V} {e : Et} {es : List Et} (r : Rp K A F N H pn σ ρ [v] [e]) (h : Qs.kids e = some es) : ∃ a vs, v = .ref a ∧ SqT K H a vs ∧ vs.length = es.length ∧ Rp K A F N H pn σ ρ vs es := by
  obtain ⟨fp, gp, h1, h2, h3, h4⟩ := r.own
  cases h2 with
  | cons ho t =>
    cases t
    rename_i g1
    rw [List.append_nil] at h3 h4
    unfold Qs.kids at h
    split at h <;> (first | (cases h; done) | skip)
    · cases h
      cases ho with
      | @tup a vs _ fq ha t =>
        obtain ⟨n1, n2, n3⟩ := List.nodup_append.mp h3
        exact ⟨a, vs, rfl, .of ha, t.length, ⟨fp, fq, h1, t, List.nodup_append.mpr ⟨n1, (List.nodup_cons.mp n2).2, fun x hx y hy => n3 x hx y (by simp [hy])⟩, fun x hx => h4 x (by rcases List.mem_append.mp hx with z | z <;> simp [z])⟩, r.sA, r.sN, r.nA, r.nF, r.fA, r.pin⟩
    · cases h
      cases ho with
      | n hd =>
        cases hd with
        | @tup a vs ds ha t =>
          have : ∀ {vs : List V} {ds : List Dt}, Dats K N vs ds → Owns K F N H vs (ds.map .n) [] := fun {vs ds} t => by
            induction ds generalizing vs with
            | nil => cases t; exact .nil
            | cons d ds ih =>
              cases t with
              | cons h t => exact .cons (fp := []) (.n h) (ih t)
          exact ⟨a, vs, rfl, Same.sqt r.sN ha, by rw [t.length, List.length_map], ⟨fp, [], h1, this t, h3, h4⟩, r.sA, r.sN, r.nA, r.nF, r.fA, r.pin⟩
    · cases h
      cases ho with
      | o hd =>
        cases hd with
        | @tup a vs ds ha t =>
          have : ∀ {vs : List V} {ds : List Dt}, Dats K F vs ds → Owns K F N H vs (ds.map lf) [] := fun {vs ds} t => by
            induction ds generalizing vs with
            | nil => cases t; exact .nil
            | cons d ds ih =>
              cases t with
              | cons h t => exact .cons (fp := []) (lf_own h) (ih t)
          exact ⟨a, vs, rfl, Same.sqt r.sF ha, by rw [t.length, List.length_map], ⟨fp, [], h1, this t, h3, h4⟩, r.sA, r.sN, r.nA, r.nF, r.fA, r.pin⟩
/-- names, from the left, for things -/
def tGN (K : PySem.W.Frag) (pn : List (Nat × V)) (is : List Nat) : TGs := fun xs σ H Q => ∃ A F N ρ es, Rp K A F N H pn σ ρ xs es ∧ es.length = is.length ∧ (∀ i ∈ is, i < ρ.length) ∧ ∀ σ', Rp K A F N H pn σ' (putAll is es ρ) [] [] → Q σ' H
where putAll : List Nat → List Et → En → En
  | i :: is, e :: es, ρ => putAll is es (ρ.set i (some e))
  | _, _, ρ => ρ
abbrev QN (X : Cx) (pn : List (Nat × V)) (ts : List Expr) (is : List Nat) : Prop := PGs X ts (tGN X.K pn is)
theorem n_nil : QN X pn [] [] := pgs_nil.weak fun xs σ H Q ⟨A, F, N, ρ, es, r, hl, hi, k⟩ => by
  cases es with
  | nil =>
    have := r.len
    cases xs with
    | nil => exact ⟨rfl, k σ r⟩
    | cons _ _ => cases this
  | cons _ _ => cases hl
theorem n_cons {i : Nat} {is : List Nat} {x : Str} {ts : List Expr} (h2 : QN X pn ts is) (hN : X.N.Nodup) (hp : NoPin pn i := by intro p h; simp at h) (hi : X.N[i]? = some x := by rfl) (hx : Loc X.env.scope x := by first | exact Or.inl rfl | exact Or.inr rfl) (hf : X.fn x = true ∨ X.env.scope.names.lookup x = some .local := by first | exact .inl rfl | exact .inr rfl | assumption)
    (hs : (assignEach (.Name x pos :: ts) X.env).map (·.2) = assign (.Name x pos) X.env :: (assignEach ts X.env).map (·.2) := by rfl) : QN X pn (.Name x pos :: ts) (i :: is) :=
  (pgs_cons (pg_name hN hi hx hf) h2 hs).weak fun xs σ H Q ⟨A, F, N, ρ, es, r, hl, hii, k⟩ => by
    cases es with
    | nil => cases hl
    | cons e es =>
      have ln := r.len
      cases xs with
      | nil => cases ln
      | cons v vs => exact ⟨v, vs, rfl, A, F, N, _, es, r.store1 (hii i (by simp)) hp, by simpa using hl, fun j hj => by rw [List.length_set]; exact hii j (by simp [hj]), fun σ' r' => k σ' r'⟩
/-- a, b = a tuple -/
def sUnp (is : List Nat) (m : Mm) : Sm := fun ρ => (m ρ).bind fun z => match z with
  | .ok e ρ' => (kids e).bind fun es => if es.length = is.length ∧ is.all (· < ρ'.length) = true then some (.nx (tGN.putAll is es ρ')) else none
  | .ex C i ρ' => some (.ex C i ρ')
theorem s_unp {ts : List Expr} {jj : Nat} {tpos : Pos} {is : List Nat} {m : Mm} (hc : X.calm = true) (he : QM X pn W e m) (h : QN X pn ts is) (hn : (assignEach ts X.env).length = is.length := by rfl) (hst : (assignEach ts X.env).findIdx? (·.1) = none := by rfl)
    (hs : swapsWithSole [.Tuple ts jj tpos] e pos.line X.env = pure false := by rfl) (hw : swappedStores [.Tuple ts jj tpos] e X.env = pure none := by rfl) (h1 : (assignEach [.Tuple ts jj tpos] X.env).map (·.2) = [assign (.Tuple ts jj tpos) X.env] := by rfl) :
    QS X pn W (.Assign [.Tuple ts jj tpos] e pos) (sUnp is m) := (ps_asg he (pg_tup hc h hn hst) hs hw h1).weak fun D σ H ⟨A, F, N, ρ, out, r, hf, q⟩ => by
  obtain ⟨z, hz, hf⟩ := bindS hf
  refine ⟨A, F, N, ρ, z, r, hz, fun F' N' H' st => ?_⟩
  cases z with
  | ok e ρ' =>
    intro v r'
    obtain ⟨es, hk, hf⟩ := bindS hf
    split at hf
    · rename_i hl
      cases hf
      obtain ⟨a, vs, rfl, hq, hlv, r2⟩ := r'.kids hk
      exact ⟨a, vs, rfl, hq, hlv.trans hl.1, A, F', N', ρ', es, r2, hl.1, fun i hi => by simpa using List.all_eq_true.mp hl.2 i hi, fun σ' r3 => q F' N' H' σ' st r3⟩
    · cases hf
  | ex C i ρ' =>
    cases hf
    exact fun d r' x => q F' N' H' σ st d r' x
/-- a, b = e, e', plain names -/
def mEs (f : En → Option (List Et)) : En → Option (List Et) := f
def sPar (i j : Nat) (f : En → Option (List Et)) : Sm := fun ρ => (f ρ).bind fun es => match es with
  | [d, e] => if i < ρ.length ∧ j < ρ.length then some (.nx ((ρ.set i (some d)).set j (some e))) else none
  | _ => none
theorem s_par {i j : Nat} {x y : Str} {px py pt : Pos} {kt k2 pt2} {f : En → Option (List Et)} (hc : X.calm = true) (hN : X.N.Nodup) (ha : QEs X pn [a, b] f) (hpi : NoPin pn i := by intro p h; simp at h) (hpj : NoPin pn j := by intro p h; simp at h) (hi : X.N[i]? = some x := by rfl) (hj : X.N[j]? = some y := by rfl) (hij : i ≠ j := by decide)
    (hx : X.env.scope.names.lookup x = some .local := by rfl) (hy : X.env.scope.names.lookup y = some .local := by rfl) (hw : swappedStores [.Tuple [.Name x px, .Name y py] kt pt] (.Tuple [a, b] k2 pt2) X.env = pure (some [x, y]) := by rfl)
    (hs : swapsWithSole [.Tuple [.Name x px, .Name y py] kt pt] (.Tuple [a, b] k2 pt2) pos.line X.env = pure false := by rfl) : QS X pn W (.Assign [.Tuple [.Name x px, .Name y py] kt pt] (.Tuple [a, b] k2 pt2) pos) (sPar i j f) :=
  (ps_par hc hN hi hj hij hx hy ha hw hs).weak fun D σ H ⟨A, F, N, ρ, out, r, hf, q⟩ => by
    obtain ⟨es, he, hf⟩ := bindS hf
    split at hf
    · split at hf
      · rename_i hl
        cases hf
        refine ⟨A, F, N, ρ, _, r, he, fun vs H' F' N' s st r' => ?_⟩
        have ln := r'.len
        match vs, ln with
        | [v, w], _ => exact ⟨v, w, rfl, q F' N' H' _ st ((r'.store1 hl.1 hpi).store1 (by rw [List.length_set]; exact hl.2) hpj)⟩
      · cases hf
    · cases hf
/-- name = [.. for ..] on one line -/
def sSetL (i : Nat) (f : En → Option (List Dt)) : Sm := sSet i (mE (eF f))
theorem s_setLc {i : Nat} {y : Str} {py spos : Pos} {tg iter e : Expr} {ifs : List Expr} {scope : Scope} {own : List (Str × Nat)} {it : En → Option (List Dt)} {b : Dt → En → Option En} {t : En → Option Bool} {f : En → Option Dt} (hc : X.calm = true) (hN : X.N.Nodup) (hi : QI X tg iter it) (ok : BlkOk X.N X.env.scope scope own)
    (hg : ∀ (s : Shared) (H : Hp) (C : Addr) (cl : List (Str × Addr)) (fp : List Addr), QG (X.blk s H scope (compEnvC scope cl C X.env) fp) (own.map (·.2)) tg b) (ht : ∀ (s : Shared) (H : Hp) (C : Addr) (cl : List (Str × Addr)) (fp : List Addr), QBs (X.blk s H scope (compEnvC scope cl C X.env) fp) ifs t)
    (he : ∀ (s : Shared) (H : Hp) (C : Addr) (cl : List (Str × Addr)) (fp : List Addr), QP (X.blk s H scope (compEnvC scope cl C X.env) fp) e f)
    (hsw : swapsWith (.ListComp e [⟨tg, iter, ifs, 0⟩] scope pos) (some (.Name y py)) spos.line X.env = pure true) (hp : NoPin pn i := by intro p h; simp at h) (hy : X.N[i]? = some y := by rfl) (hyl : X.env.scope.names.lookup y = some .local := by rfl) (hs : ∀ x, foldedSetIterable iter X.env x = pure x := by intro _; rfl) :
    QS X pn W (.Assign [.Name y py] (.ListComp e [⟨tg, iter, ifs, 0⟩] scope pos) spos) (sSetL i (fLc it b t f (own.map (·.2)))) := (ps_setLc hc hN hy hyl hsw hi ok hg ht he hs).weak fun D σ H ⟨A, F, N, ρ, o, r, hf, p⟩ => by
  obtain ⟨z, hz, hf⟩ := bindS hf
  obtain ⟨e', he', rfl⟩ := mapS hz
  have hf' : (if i < ρ.length then some (Out.nx (ρ.set i (some e'))) else none) = some o := hf
  split at hf'
  · rename_i hl
    cases hf'
    exact lc_rd σ H (fun x H1 => gName i x σ H1 D.nx) (tF_e (pn := pn) σ H _ ⟨A, F, N, ρ, e', r, he', fun v H' F' N' s st r' => p F' N' H' _ st (r'.store hl hp)⟩)
  · cases hf'
def sNo : Sm := fun _ => none
theorem s_no {st : Stmt} : QS X pn W st sNo := ps_never.weak fun D σ H ⟨A, F, N, ρ, o, r, hf, p⟩ => by cases hf
/-- + of ints or of lists of scalars, owned -/
def eAddA (f g : En → Option Dt) : En → Option Et := fun ρ => (f ρ).bind fun x => (g ρ).bind fun y => match x, y with
  | .int i, .int j => some (.n (.int (i + j)))
  | .lst xs, .lst ys => if xs.length + ys.length ≤ sizeLine ∧ xs.all sc = true ∧ ys.all sc = true then some (.fl (xs ++ ys)) else none
  | _, _ => none
def eIf (t : En → Option Bool) (f g : En → Option Et) : En → Option Et := fun ρ => (t ρ).bind fun b => if b = true then f ρ else g ρ
theorem e_ife {t : En → Option Bool} {f g : En → Option Et} (hc : QB X c t) (ha : QE X pn a f) (hb : QE X pn b g) : QE X pn (.IfExp c a b pos) (eIf t f g) := (pe_ifExp hc ha hb).weak fun σ H Q ⟨A, F, N, ρ, e, r, hf, k⟩ => by
  obtain ⟨bb, hbb, hf⟩ := bindS hf
  refine ⟨H, ρ, bb, r.rv, hbb, fun H' Z' g => ?_⟩
  cases bb with
  | true => exact ⟨A, F, N, ρ, e, r.mono g.h, hf, fun v H2 F' N' s => k v H2 F' N' (g.h.trans s)⟩
  | false => exact ⟨A, F, N, ρ, e, r.mono g.h, hf, fun v H2 F' N' s => k v H2 F' N' (g.h.trans s)⟩
/-- some names' things are frozen first -/
def frzAll : List Nat → En → Option En
  | [], ρ => some ρ
  | i :: is, ρ => (getS i ρ).bind fun e => frzAll is (ρ.set i (some (frz e)))
def sFrz (is : List Nat) (f : Sm) : Sm := fun ρ => (frzAll is ρ).bind f
theorem Rp.frzAll {is : List Nat} : ∀ {F N : Hp} {ρ ρ' : En}, Rp K A F N H pn σ ρ [] [] → Qs.frzAll is ρ = some ρ' → ∃ F' N', Stp F N F' N' ∧ Rp K A F' N' H pn σ ρ' [] [] := by
  induction is with
  | nil =>
    intro F N ρ ρ' r h
    cases h
    exact ⟨F, N, Stp.refl, r⟩
  | cons i is ih =>
    intro F N ρ ρ' r h
    obtain ⟨e, he, h⟩ := bindS h
    have hi' : ρ[i]? = some (some e) := by
      unfold getS at he
      split at he
      · cases he; assumption
      · cases he
    obtain ⟨v, F1, N1, hv, st, r1⟩ := r.load hi'
    obtain ⟨F2, N2, st2, r2⟩ := ih r1.drop h
    exact ⟨F2, N2, st.trans st2, r2⟩
theorem s_frz {st : Stmt} {f : Sm} (is : List Nat) (h : QS X pn W st f) : QS X pn W st (sFrz is f) := h.weak fun D σ H ⟨A, F, N, ρ, o, r, hf, p⟩ => by
  obtain ⟨ρ', h1, hf⟩ := bindS hf
  obtain ⟨F', N', st, r'⟩ := r.frzAll h1
  exact ⟨A, F', N', ρ', o, r', hf, p.step st⟩
end Qs
namespace Qs
open PySem PySem.Spec PyProof.Rows L2
variable [CTab]
variable {X : Cx} {K : PySem.W.Frag} {F N H F' N' H' A : Hp} {pn : List (Nat × V)} {W : WX} {a b c e : Expr} {pos p2 : Pos} {σ : L2.St} {ρ : En}
variable {CX : CXT} {k j cc : Nat} {x : Str} {gF : Fn}
theorem OwnS.snoc : ∀ {σ : L2.St} {ρ : En} {fp g : List Addr} {v : V} {e : Et}, OwnS K F N H σ ρ fp → Own K F N H v e g → OwnS K F N H (σ ++ [some v]) (ρ ++ [some e]) (fp ++ g)
  | _, _, _, _, _, _, .nil, h => by
    have := OwnS.cons h (OwnS.nil (K := K) (F := F) (N := N) (H := H))
    simpa using this
  | _, _, _, _, _, _, .skip t, h => .skip (t.snoc h)
  | _, _, _, _, _, _, .cons q t, h => by
    rw [List.append_assoc]
    exact .cons q (t.snoc h)
theorem OwnS.init : ∀ {σ : L2.St} {ρ : En} {fp : List Addr} {x : Option V} {y : Option Et}, OwnS K F N H (σ ++ [x]) (ρ ++ [y]) fp → σ.length = ρ.length → ∃ f1 f2, fp = f1 ++ f2 ∧ OwnS K F N H σ ρ f1
  | [], [], fp, _, _, _, _ => ⟨[], fp, rfl, .nil⟩
  | [], _ :: _, _, _, _, _, l => by cases l
  | _ :: _, [], _, _, _, _, l => by cases l
  | u :: σ, none :: ρ, _, _, _, .skip t, l => by
    obtain ⟨f1, f2, e, h⟩ := t.init (by simpa using l)
    exact ⟨f1, f2, e, .skip h⟩
  | some u :: σ, some e0 :: ρ, _, _, _, .cons (fp := fp) q t, l => by
    obtain ⟨f1, f2, e, h⟩ := t.init (by simpa using l)
    exact ⟨fp ++ f1, f2, by rw [e, List.append_assoc], .cons q h⟩
theorem Rp.push {v : V} {e : Et} (r : Rp K A F N H pn σ ρ [v] [e]) : Rp K A F N H pn (σ ++ [some v]) (ρ ++ [some e]) [] [] := by
  obtain ⟨fp, gp, h1, h2, h3, h4⟩ := r.own
  cases h2 with
  | cons h t =>
    cases t
    rename_i g1
    rw [List.append_nil] at h3 h4
    refine ⟨⟨fp ++ g1, [], h1.snoc h, .nil, by simpa using h3, by simpa using h4⟩, r.sA, r.sN, r.nA, r.nF, r.fA, fun p hp => ?_⟩
    have := r.pin p hp
    rw [List.getElem?_append_left (List.getElem?_eq_some_iff.mp this).1]
    exact this
theorem Rp.pop {x : Option V} {y : Option Et} {ws : List V} {gs : List Et} (r : Rp K A F N H pn (σ ++ [x]) (ρ ++ [y]) ws gs) (hl : σ.length = ρ.length) (hp : ∀ p ∈ pn, p.1 < σ.length) : Rp K A F N H pn σ ρ ws gs := by
  obtain ⟨fp, gp, h1, h2, h3, h4⟩ := r.own
  obtain ⟨f1, f2, rfl, h⟩ := h1.init hl
  obtain ⟨n1, n2, n3⟩ := List.nodup_append.mp h3
  refine ⟨⟨f1, gp, h, h2, List.nodup_append.mpr ⟨(List.nodup_append.mp n1).1, n2, fun x hx y hy => n3 x (by simp [hx]) y hy⟩, fun x hx => h4 x (by rcases List.mem_append.mp hx with z | z <;> simp [z])⟩, r.sA, r.sN, r.nA, r.nF, r.fA, fun p hpp => ?_⟩
  have := r.pin p hpp
  rw [List.getElem?_append_left (hp p hpp)] at this
  exact this
def tempOk (c : Nat) (z : Fz) (ρ : En) : Et → Option Rz
  | .ob c' _ => if c' = c then match z with
    | .ok r (e' :: _) => if own r = true ∧ own e' = true then some (.ok r ρ) else none
    | _ => none else none
  | _ => none
/-- (a new object).m(data) -/
def mMethT (c : Nat) (g : Fn) (fo : En → Option Et) (fa : En → Option (List Dt)) : Mm := fun ρ => (fo ρ).bind fun e => (fa ρ).bind fun xs => (g (e :: xs.map .o)).bind fun z => tempOk c z ρ e
theorem tMeth_t {fo : En → Option Et} {fa : En → Option (List Dt)} {E : XK} (no : x ∉ CTab.names cc) (σ : L2.St) (H : Hp) (Q : VK) (q : tM K pn W (mMethT cc gF fo fa) σ H Q) : tMeth (CTab.addr cc) x (spM K gF) [] E (tE K pn fo) (tPs K fa) σ H Q := by
  obtain ⟨A, F, N, ρ, z, r, hf1, kk⟩ := q
  obtain ⟨e, he, hf2⟩ := bindS hf1
  obtain ⟨xs, hxs, hf3⟩ := bindS hf2
  obtain ⟨y, hy, hf⟩ := bindS hf3
  clear hf1 hf2 hf3
  refine ⟨A, F, N, ρ, e, r, he, fun v H1 F1 N1 s1 st1 r1 => ?_⟩
  unfold tempOk at hf
  split at hf
  · rename_i e0 es0
    split at hf
    rename_i hc
    subst hc
    have hls : σ.length = ρ.length := by obtain ⟨_, _, h, _⟩ := r1.own; exact h.len
    have hpin : ∀ p ∈ pn, p.1 < σ.length := fun p hp => (List.getElem?_eq_some_iff.mp (r1.pin p hp)).1
    have hgp : getP (.s ρ.length) (ρ ++ [some (.ob e0 es0)]) = some (.ob e0 es0) := by
      show getS ρ.length (ρ ++ [some (.ob e0 es0)]) = _
      unfold getS
      rw [List.getElem?_append_right (Nat.le_refl _), Nat.sub_self]
      rfl
    obtain ⟨v', mid, hv, ho, rv, lend⟩ := r1.push.lend hgp
    have hvv : v' = v := by
      have hv : (σ ++ [some v])[ρ.length]? = some (some v') := hv
      rw [List.getElem?_append_right (by rw [hls]; exact Nat.le_refl _), hls, Nat.sub_self] at hv
      cases hv
      rfl
    subst hvv
    have rv' : Rv K (offH H1 mid) H1 σ ρ := ⟨rv.s, hls, fun i e hi => by
      have hi' : i < ρ.length := (List.getElem?_eq_some_iff.mp hi).1
      obtain ⟨u, hu, du⟩ := rv.d i e (by
        show ((ρ ++ [some (Et.ob e0 es0)]).set ρ.length none)[i]? = _
        rw [List.getElem?_set_ne (by omega), List.getElem?_append_left hi']
        exact hi)
      rw [List.getElem?_append_left (by omega)] at hu
      exact ⟨u, hu, du⟩⟩
    cases ho with
    | @ob a dx _ fs _ fq ha hn t =>
      refine ⟨a, dx, fs, rfl, ha, no_field no hn, _, _, xs, rv', hxs, fun vs H2 Z2 g t => ?_⟩
      show spM K gF (.ref a :: (vs ++ [])) H2 Q E
      rw [List.append_nil]
      obtain ⟨A', F2, R, back⟩ := lend H2 Z2 vs xs g t
      refine ⟨A', F2, N1, _, y, R, hy, ?_⟩
      cases y with
      | ok r' es' =>
        intro u H3 F3 N3 st R3
        cases es' with
        | nil => cases hf
        | cons e' es' =>
          have hf2 : (if own r' = true ∧ own e' = true then some (Rz.ok r' ρ) else none) = some z := hf
          split at hf2
          · rename_i hoo
            cases hf2
            obtain ⟨ρ3, F4, h3, st3, R4⟩ := back F3 N3 H3 [u] [r'] e' es' st R3 rfl (by rw [owns, owns, hoo.1]; rfl) hoo.2
            have h3' : (ρ ++ [some (Et.ob e0 es0)]).set ρ.length (some e') = ρ3 := by
              have : some ((ρ ++ [some (Et.ob e0 es0)]).set ρ.length (some e')) = some ρ3 := h3
              exact Option.some.inj this
            have h4 : ρ3 = ρ ++ [some e'] := by
              rw [← h3', List.set_append_right _ _ (Nat.le_refl _), Nat.sub_self]
              rfl
            rw [h4] at R4
            exact kk F4 N3 H3 (st1.trans st3) u (R4.pop hls hpin)
          · cases hf2
      | ex C i es' => cases hf
    · cases hf
  · cases hf
section
variable {o : Expr} {es : List Expr} {apos : Pos} {fo : En → Option Et} {fa : En → Option (List Dt)}
theorem m_methT {pl : Sem Bool} (c : MetR X.prog X.w X.K X.mg X.base CX k cc x gF) (m : Mute X.prog X.w CX) (hr : Room j X.A) (ho : QE X pn o fo) (ha : QPs X (e :: es) fa) (hk : k ≤ j := by decide)
    (hst : starEach (e :: es) X.env = (false, eval e X.env) :: starEach es X.env := by rfl) (hpl : (backTo pos (starEach es X.env)).any (·.1) = false := by rfl)
    (ht : eval (.Call (.Attribute o x apos) (e :: es) [] pos) X.env = (do
      let ov ← eval o X.env
      standAt apos.atName
      let (f, first) ← holding [ov] (getMethod ov x pl)
      callWith pos f first (backTo pos (starEach (e :: es) X.env)) (backToKw pos (keywordEach [] X.env))) := by rfl) : QM X pn W (.Call (.Attribute o x apos) (e :: es) [] pos) (mMethT cc gF fo fa) := by
  obtain ⟨fa', fd, ps, F, cl, mt, bn⟩ := c.ex
  exact (pe_meth ho cl mt F (hr.mono hk) bn .nil m.passes ha hst hpl ht).weak fun σ H Q q => tMeth_t c.no σ H Q q
end
theorem same_upd {H H2 : Hp} {p : Addr} {o : HO} (s : Same H H2) (np : H2 p = none) : Same H (upd H2 p o) := fun a u h => by
  rw [upd_ne (ne_of_none (s a u h) np)]
  exact s a u h
theorem e_addA {f g : En → Option Dt} (ha : QP X a f) (hb : QP X b g) : QE X pn (.BinOp a .Add b pos) (eAddA f g) := (pe_op (op_add.or op_cat) ha hb).weak fun σ H Q ⟨A, F, N, ρ, e, r, hf, k⟩ => by
  obtain ⟨x, hx, hf⟩ := bindS hf
  obtain ⟨y, hy, hf⟩ := bindS hf
  refine ⟨H, ρ, x, r.rv, hx, fun v H1 Z1 g1 d1 => ⟨Z1, ρ, y, r.rv.gr g1, hy, fun u H2 Z2 g2 d2 => ?_⟩⟩
  split at hf
  · cases hf
    cases d1
    cases d2
    exact .inl ⟨_, _, rfl, rfl, k _ H2 F N (g1.h.trans g2.h) Stp.refl ((r.mono (g1.h.trans g2.h)).temp .int)⟩
  · split at hf
    · rename_i hl
      cases hf
      cases d1 with
      | lst h1 t1 =>
        cases d2 with
        | lst h2 t2 =>
          refine .inr ⟨_, _, _, _, rfl, rfl, g2.s _ _ (g2.z _ _ h1), g2.s _ _ h2, by rw [t1.length, t2.length]; exact hl.1, fun p np => ?_⟩
          exact k _ _ F N (same_upd (g1.h.trans g2.h) np) Stp.refl (r.newfl (same_upd (g1.h.trans g2.h) np) ((g1.h.trans g2.h).free np) upd_same ((t1.sc hl.2.1).append (t2.sc hl.2.2)))
    · cases hf
  · cases hf
/-- if, by a value that may change things -/
def sIfM (m : Mm) (f g : Sm) : Sm := fun ρ => (m ρ).bind fun z => match z with
  | .ok (.n (.bl b)) ρ' => if b = true then f ρ' else g ρ'
  | .ex C i ρ' => some (.ex C i ρ')
  | _ => none
end Qs
namespace Qs
open PySem PySem.Spec PyProof.Rows L2
variable [CTab]
variable {K : PySem.W.Frag}
theorem noPin {pb : List Bool} {vs : List V} {i : Nat} (h : pb.getD i false = false) : NoPin (pnOf pb vs) i := by
  intro p hp e
  obtain ⟨j, hj, e2⟩ := List.mem_filterMap.mp hp
  split at e2
  · rename_i hk
    cases e2
    subst e
    rw [h] at hk
    cases hk
  · cases e2
theorem tupN_nil : ∀ (ds : List Dt) (ρ ρ' : En), gsNil ds ρ = some ρ' → ds.length = 0 := fun ds ρ ρ' h => by
  cases ds with
  | nil => rfl
  | cons _ _ => cases h
theorem tupN_cons {b : Dt → En → Option En} {bs : List Dt → En → Option En} {n : Nat} (hb : ∀ (ds : List Dt) (ρ ρ' : En), bs ds ρ = some ρ' → ds.length = n) : ∀ (ds : List Dt) (ρ ρ' : En), gsCons b bs ds ρ = some ρ' → ds.length = n + 1 := fun ds ρ ρ' h => by
  cases ds with
  | nil => cases h
  | cons d ds =>
    obtain ⟨ρ1, _, h2⟩ := bindS h
    simp [hb _ _ _ h2]
theorem law_sp {g : Fn} {ns : List Int} {a : Addr} {H : Hp} (h : ∃ r es', g [.o (.rl (ns.map Dt.int))] = some (.ok r es') ∧ toD r = .bl true) (hS : SqL K H a (ns.map V.int)) : spM K g [.ref a] H (fun v _ => v = .bl true) (fun _ _ _ => False) := by
  obtain ⟨r, es', h, hr⟩ := h
  refine ⟨H, H, none_, _, _, rp_args (ds := [.rl (ns.map Dt.int)]) (Same.refl _) (.cons (.rl hS (dats_ints ns)) .nil), h, fun v H' F' N' st r' => ?_⟩
  have d := r'.datT
  rw [hr] at d
  cases d
  rfl
end Qs
namespace Qs
open PySem PySem.Spec PyProof.Rows L2
/-! ### what a statement brings about, in logic -/
variable {CT : CTab}
def wp [CTab] (f : Sm) (ρ : En) (Q : Out → Prop) : Prop := ∃ o, f ρ = some o ∧ Q o
variable [CTab] {f g : Sm} {ρ : En} {Q R : Out → Prop}
def thenQ [CTab] (g : Sm) (Q : Out → Prop) : Out → Prop
  | .nx ρ' => wp g ρ' Q
  | o => Q o
theorem thenQ_nx {ρ' : En} : thenQ g Q (.nx ρ') ↔ wp g ρ' Q := Iff.rfl
theorem thenQ_rt {e : Et} {ρ' : En} : thenQ g Q (.rt e ρ') ↔ Q (.rt e ρ') := Iff.rfl
theorem thenQ_ex {c : Nat} {i : Int} {ρ' : En} : thenQ g Q (.ex c i ρ') ↔ Q (.ex c i ρ') := Iff.rfl
theorem thenQ_bk {ρ' : En} : thenQ g Q (.bk ρ') ↔ Q (.bk ρ') := Iff.rfl
theorem thenQ_ct {ρ' : En} : thenQ g Q (.ct ρ') ↔ Q (.ct ρ') := Iff.rfl
theorem wp_mono (h : wp f ρ Q) (k : ∀ o, Q o → R o) : wp f ρ R := let ⟨o, e, q⟩ := h; ⟨o, e, k o q⟩
theorem wp_nil : wp sNil ρ Q ↔ Q (.nx ρ) := ⟨fun ⟨_, e, q⟩ => by cases e; exact q, fun q => ⟨_, rfl, q⟩⟩
theorem wp_brk : wp sBrk ρ Q ↔ Q (.bk ρ) := ⟨fun ⟨_, e, q⟩ => by cases e; exact q, fun q => ⟨_, rfl, q⟩⟩
theorem wp_cont : wp sCont ρ Q ↔ Q (.ct ρ) := ⟨fun ⟨_, e, q⟩ => by cases e; exact q, fun q => ⟨_, rfl, q⟩⟩
theorem wp_retN : wp sRetN ρ Q ↔ Q (.rt (.n .non) ρ) := ⟨fun ⟨_, e, q⟩ => by cases e; exact q, fun q => ⟨_, rfl, q⟩⟩
theorem wp_seq : wp (sSeq f g) ρ Q ↔ wp f ρ (thenQ g Q) := by
  constructor
  · rintro ⟨o, e, q⟩
    obtain ⟨o1, h1, e⟩ := bindS e
    refine ⟨o1, h1, ?_⟩
    cases o1 with
    | nx ρ' => exact ⟨o, e, q⟩
    | _ => cases e; exact q
  · rintro ⟨o1, h1, q⟩
    cases o1 with
    | nx ρ' =>
      obtain ⟨o, e, q⟩ := q
      refine ⟨o, ?_, q⟩
      unfold sSeq
      rw [h1]
      exact e
    | _ =>
      refine ⟨_, ?_, q⟩
      unfold sSeq
      rw [h1]
      rfl
theorem wp_if {c : En → Option Bool} : wp (sIf c f g) ρ Q ↔ ∃ b, c ρ = some b ∧ (b = true → wp f ρ Q) ∧ (b = false → wp g ρ Q) := by
  constructor
  · rintro ⟨o, e, q⟩
    obtain ⟨b, hb, e⟩ := bindS e
    refine ⟨b, hb, fun h => ?_, fun h => ?_⟩ <;> (subst h; exact ⟨o, e, q⟩)
  · rintro ⟨b, hb, h1, h2⟩
    cases b with
    | true =>
      obtain ⟨o, e, q⟩ := h1 rfl
      refine ⟨o, ?_, q⟩
      unfold sIf
      rw [hb]
      exact e
    | false =>
      obtain ⟨o, e, q⟩ := h2 rfl
      refine ⟨o, ?_, q⟩
      unfold sIf
      rw [hb]
      exact e
def setQ [CTab] (i : Nat) (Q : Out → Prop) : Rz → Prop
  | .ok e ρ' => i < ρ'.length ∧ Q (.nx (ρ'.set i (some e)))
  | .ex c k ρ' => Q (.ex c k ρ')
theorem setQ_ok {i : Nat} {e : Et} {ρ' : En} : setQ i Q (.ok e ρ') ↔ i < ρ'.length ∧ Q (.nx (ρ'.set i (some e))) := Iff.rfl
theorem setQ_ex {i c : Nat} {k : Int} {ρ' : En} : setQ i Q (.ex c k ρ') ↔ Q (.ex c k ρ') := Iff.rfl
theorem wp_set {i : Nat} {m : Mm} : wp (sSet i m) ρ Q ↔ ∃ z, m ρ = some z ∧ setQ i Q z := by
  constructor
  · rintro ⟨o, e, q⟩
    obtain ⟨z, hz, e⟩ := bindS e
    refine ⟨z, hz, ?_⟩
    cases z with
    | ok x ρ' =>
      have e : (if i < ρ'.length then some (Out.nx (ρ'.set i (some x))) else none) = some o := e
      split at e
      · rename_i h
        cases e
        exact ⟨h, q⟩
      · cases e
    | ex c k ρ' => cases e; exact q
  · rintro ⟨z, hz, q⟩
    cases z with
    | ok x ρ' => exact ⟨_, by unfold sSet; rw [hz]; show (if i < ρ'.length then _ else _) = _; rw [if_pos q.1], q.2⟩
    | ex c k ρ' => exact ⟨_, by unfold sSet; rw [hz]; rfl, q⟩
def retQ [CTab] (Q : Out → Prop) : Rz → Prop
  | .ok e ρ' => Q (.rt e ρ')
  | .ex c k ρ' => Q (.ex c k ρ')
theorem retQ_ok {e : Et} {ρ' : En} : retQ Q (.ok e ρ') ↔ Q (.rt e ρ') := Iff.rfl
theorem retQ_ex {c : Nat} {k : Int} {ρ' : En} : retQ Q (.ex c k ρ') ↔ Q (.ex c k ρ') := Iff.rfl
theorem wp_ret {m : Mm} : wp (sRet m) ρ Q ↔ ∃ z, m ρ = some z ∧ retQ Q z := by
  constructor
  · rintro ⟨o, e, q⟩
    obtain ⟨z, hz, rfl⟩ := mapS e
    refine ⟨z, hz, ?_⟩
    cases z <;> exact q
  · rintro ⟨z, hz, q⟩
    cases z with
    | ok x ρ' => exact ⟨_, by unfold sRet; rw [hz]; rfl, q⟩
    | ex c k ρ' => exact ⟨_, by unfold sRet; rw [hz]; rfl, q⟩
def dropQ [CTab] (Q : Out → Prop) : Rz → Prop
  | .ok _ ρ' => Q (.nx ρ')
  | .ex c k ρ' => Q (.ex c k ρ')
theorem dropQ_ok {e : Et} {ρ' : En} : dropQ Q (.ok e ρ') ↔ Q (.nx ρ') := Iff.rfl
theorem dropQ_ex {c : Nat} {k : Int} {ρ' : En} : dropQ Q (.ex c k ρ') ↔ Q (.ex c k ρ') := Iff.rfl
theorem wp_drop {m : Mm} : wp (sDrop m) ρ Q ↔ ∃ z, m ρ = some z ∧ dropQ Q z := by
  constructor
  · rintro ⟨o, e, q⟩
    obtain ⟨z, hz, rfl⟩ := mapS e
    refine ⟨z, hz, ?_⟩
    cases z <;> exact q
  · rintro ⟨z, hz, q⟩
    cases z with
    | ok x ρ' => exact ⟨_, by unfold sDrop; rw [hz]; rfl, q⟩
    | ex c k ρ' => exact ⟨_, by unfold sDrop; rw [hz]; rfl, q⟩
theorem wp_app {p : Pl} {h : En → Option Et} : wp (sApp p h) ρ Q ↔ ∃ e, getP p ρ = some e ∧ ∃ x, h ρ = some x ∧ lenE e < sizeLine ∧ ∃ e', appE e x = some e' ∧ ∃ ρ', setP p e' ρ = some ρ' ∧ Q (.nx ρ') := by
  constructor
  · rintro ⟨o, e, q⟩
    obtain ⟨x, hx, e⟩ := bindS e
    obtain ⟨y, hy, e⟩ := bindS e
    split at e
    · rename_i hl
      obtain ⟨z, hz, e⟩ := bindS e
      obtain ⟨ρ', hr, rfl⟩ := mapS e
      exact ⟨x, hx, y, hy, hl, z, hz, ρ', hr, q⟩
    · cases e
  · rintro ⟨x, hx, y, hy, hl, z, hz, ρ', hr, q⟩
    refine ⟨.nx ρ', ?_, q⟩
    unfold sApp
    rw [hx]
    show (h ρ).bind _ = _
    rw [hy]
    show (if lenE x < sizeLine then _ else _) = _
    rw [if_pos hl, hz]
    show (setP p z ρ).map _ = _
    rw [hr]
    rfl
theorem wp_for {it : En → Option (List Dt)} {b : Dt → En → Option En} {body : Sm} : wp (sFor it b body) ρ Q ↔ ∃ ds, it ρ = some ds ∧ wp (forL b body ds) ρ Q := by
  constructor
  · rintro ⟨o, e, q⟩
    obtain ⟨ds, hd, e⟩ := bindS e
    exact ⟨ds, hd, o, e, q⟩
  · rintro ⟨ds, hd, o, e, q⟩
    exact ⟨o, by unfold sFor; rw [hd]; exact e, q⟩
theorem wp_forL {it : En → Option (List Dt)} {b : Dt → En → Option En} {body : Sm} : wp (sForL it b body) ρ Q ↔ ∃ ds, it (leafE ρ) = some ds ∧ wp (forL b body ds) ρ Q := by
  constructor
  · rintro ⟨o, e, q⟩
    obtain ⟨ds, hd, e⟩ := bindS e
    exact ⟨ds, hd, o, e, q⟩
  · rintro ⟨ds, hd, o, e, q⟩
    exact ⟨o, by unfold sForL; rw [hd]; exact e, q⟩
theorem wp_frz {is : List Nat} : wp (sFrz is f) ρ Q ↔ ∃ ρ', frzAll is ρ = some ρ' ∧ wp f ρ' Q := by
  constructor
  · rintro ⟨o, e, q⟩
    obtain ⟨ds, hd, e⟩ := bindS e
    exact ⟨ds, hd, o, e, q⟩
  · rintro ⟨ds, hd, o, e, q⟩
    exact ⟨o, by unfold sFrz; rw [hd]; exact e, q⟩
theorem wp_aug {i : Nat} {s : Dt → Dt → Option Dt} {h : En → Option Dt} : wp (sAug i s h) ρ Q ↔ ∃ x, pV i ρ = some x ∧ ∃ y, h ρ = some y ∧ ∃ z, s x y = some z ∧ sc z = true ∧ i < ρ.length ∧ Q (.nx (ρ.set i (some (.n z)))) := by
  constructor
  · rintro ⟨o, e, q⟩
    obtain ⟨x, hx, e⟩ := bindS e
    obtain ⟨y, hy, e⟩ := bindS e
    obtain ⟨z, hz, e⟩ := bindS e
    split at e
    · rename_i hl
      cases e
      exact ⟨x, hx, y, hy, z, hz, hl.1, hl.2, q⟩
    · cases e
  · rintro ⟨x, hx, y, hy, z, hz, h1, h2, q⟩
    refine ⟨_, ?_, q⟩
    unfold sAug
    rw [hx]
    show (h ρ).bind _ = _
    rw [hy]
    show (s x y).bind _ = _
    rw [hz]
    show (if _ then _ else _) = _
    rw [if_pos ⟨h1, h2⟩]
def fldQ [CTab] (i c j : Nat) (Q : Out → Prop) : Rz → Prop
  | .ok e ρ' => ∃ ρ2, setF i c j e ρ' = some ρ2 ∧ Q (.nx ρ2)
  | .ex c k ρ' => Q (.ex c k ρ')
theorem fldQ_ok {i c j : Nat} {e : Et} {ρ' : En} : fldQ i c j Q (.ok e ρ') ↔ ∃ ρ2, setF i c j e ρ' = some ρ2 ∧ Q (.nx ρ2) := Iff.rfl
theorem wp_fld {i c j : Nat} {m : Mm} : wp (sFld i c j m) ρ Q ↔ ∃ z, m ρ = some z ∧ fldQ i c j Q z := by
  constructor
  · rintro ⟨o, e, q⟩
    obtain ⟨z, hz, e⟩ := bindS e
    refine ⟨z, hz, ?_⟩
    cases z with
    | ok x ρ' =>
      obtain ⟨ρ2, h2, rfl⟩ := mapS e
      exact ⟨ρ2, h2, q⟩
    | ex c k ρ' => cases e; exact q
  · rintro ⟨z, hz, q⟩
    cases z with
    | ok x ρ' =>
      obtain ⟨ρ2, h2, q⟩ := q
      exact ⟨_, by unfold sFld; rw [hz]; show (setF i c j x ρ').map _ = _; rw [h2]; rfl, q⟩
    | ex c k ρ' => exact ⟨_, by unfold sFld; rw [hz]; rfl, q⟩
theorem wp_fldA {i c j : Nat} {s : Dt → Dt → Option Dt} {h : En → Option Dt} : wp (sFldA i c j s h) ρ Q ↔ ∃ x, getP (.f i c j) ρ = some x ∧ ∃ y, h ρ = some y ∧ ∃ z, s (toD x) y = some z ∧ sc z = true ∧ ∃ ρ', setF i c j (.n z) ρ = some ρ' ∧ Q (.nx ρ') := by
  constructor
  · rintro ⟨o, e, q⟩
    obtain ⟨x, hx, e⟩ := bindS e
    obtain ⟨y, hy, e⟩ := bindS e
    obtain ⟨z, hz, e⟩ := bindS e
    split at e
    · rename_i hl
      obtain ⟨ρ', hr, rfl⟩ := mapS e
      exact ⟨x, hx, y, hy, z, hz, hl, ρ', hr, q⟩
    · cases e
  · rintro ⟨x, hx, y, hy, z, hz, h1, ρ', hr, q⟩
    refine ⟨.nx ρ', ?_, q⟩
    unfold sFldA
    rw [hx]
    show (h ρ).bind _ = _
    rw [hy]
    show (s (toD x) y).bind _ = _
    rw [hz]
    show (if _ then _ else _) = _
    rw [if_pos h1, hr]
    rfl
def setIQ [CTab] (p : Pl) (h : En → Option Dt) (Q : Out → Prop) : Rz → Prop
  | .ok x ρ' => ∃ e, getP p ρ' = some e ∧ ∃ k, h ρ' = some (.int k) ∧ ∃ j, ixN (lenE e) k = some j ∧ ∃ e', setE e j x = some e' ∧ ∃ ρ2, setP p e' ρ' = some ρ2 ∧ Q (.nx ρ2)
  | .ex c k ρ' => Q (.ex c k ρ')
theorem setIQ_ok {p : Pl} {h : En → Option Dt} {x : Et} {ρ' : En} : setIQ p h Q (.ok x ρ') ↔ ∃ e, getP p ρ' = some e ∧ ∃ k, h ρ' = some (.int k) ∧ ∃ j, ixN (lenE e) k = some j ∧ ∃ e', setE e j x = some e' ∧ ∃ ρ2, setP p e' ρ' = some ρ2 ∧ Q (.nx ρ2) := Iff.rfl
theorem wp_setI {p : Pl} {h : En → Option Dt} {m : Mm} (q : ∃ z, m ρ = some z ∧ setIQ p h Q z) : wp (sSetI p h m) ρ Q := by
  obtain ⟨z, hz, q⟩ := q
  cases z with
  | ok x ρ' =>
    obtain ⟨e, he, k, hk, j, hj, e', he', ρ2, h2, q⟩ := q
    refine ⟨.nx ρ2, ?_, q⟩
    unfold sSetI
    rw [hz]
    show (getP p ρ').bind _ = _
    rw [he]
    show (h ρ').bind _ = _
    rw [hk]
    show (ixN (lenE e) k).bind _ = _
    rw [hj]
    show (setE e j x).bind _ = _
    rw [he']
    show (setP p e' ρ').map _ = _
    rw [h2]
    rfl
  | ex c k ρ' => exact ⟨_, by unfold sSetI; rw [hz]; rfl, q⟩
def unpQ [CTab] (is : List Nat) (Q : Out → Prop) : Rz → Prop
  | .ok e ρ' => ∃ es, kids e = some es ∧ es.length = is.length ∧ is.all (· < ρ'.length) = true ∧ Q (.nx (tGN.putAll is es ρ'))
  | .ex c k ρ' => Q (.ex c k ρ')
theorem unpQ_ok {is : List Nat} {e : Et} {ρ' : En} : unpQ is Q (.ok e ρ') ↔ ∃ es, kids e = some es ∧ es.length = is.length ∧ is.all (· < ρ'.length) = true ∧ Q (.nx (tGN.putAll is es ρ')) := Iff.rfl
theorem wp_unp {is : List Nat} {m : Mm} (q : ∃ z, m ρ = some z ∧ unpQ is Q z) : wp (sUnp is m) ρ Q := by
  obtain ⟨z, hz, q⟩ := q
  cases z with
  | ok x ρ' =>
    obtain ⟨es, h1, h2, h3, q⟩ := q
    refine ⟨_, ?_, q⟩
    unfold sUnp
    rw [hz]
    show (kids x).bind _ = _
    rw [h1]
    show (if _ then _ else _) = _
    rw [if_pos ⟨h2, h3⟩]
  | ex c k ρ' => exact ⟨_, by unfold sUnp; rw [hz]; rfl, q⟩
theorem wp_par {i j : Nat} {h : En → Option (List Et)} (q : ∃ d e, h ρ = some [d, e] ∧ i < ρ.length ∧ j < ρ.length ∧ Q (.nx ((ρ.set i (some d)).set j (some e)))) : wp (sPar i j h) ρ Q := by
  obtain ⟨d, e, h1, h2, h3, q⟩ := q
  refine ⟨_, ?_, q⟩
  unfold sPar
  rw [h1]
  show (if _ then _ else _) = _
  rw [if_pos ⟨h2, h3⟩]
theorem wp_setL {i : Nat} {h : En → Option (List Dt)} : wp (sSetL i h) ρ Q ↔ wp (sSet i (mE (eF h))) ρ Q := Iff.rfl
/-! loops -/
def bodyQ [CTab] (I : En → Prop) (Q : Out → Prop) : Out → Prop
  | .nx ρ' => I ρ'
  | .ct ρ' => I ρ'
  | .bk ρ' => Q (.nx ρ')
  | o => Q o
theorem bodyQ_nx {I : En → Prop} {ρ' : En} : bodyQ I Q (.nx ρ') ↔ I ρ' := Iff.rfl
theorem bodyQ_ct {I : En → Prop} {ρ' : En} : bodyQ I Q (.ct ρ') ↔ I ρ' := Iff.rfl
theorem bodyQ_bk {I : En → Prop} {ρ' : En} : bodyQ I Q (.bk ρ') ↔ Q (.nx ρ') := Iff.rfl
theorem bodyQ_rt {I : En → Prop} {e : Et} {ρ' : En} : bodyQ I Q (.rt e ρ') ↔ Q (.rt e ρ') := Iff.rfl
theorem bodyQ_ex {I : En → Prop} {c : Nat} {k : Int} {ρ' : En} : bodyQ I Q (.ex c k ρ') ↔ Q (.ex c k ρ') := Iff.rfl
def goF [CTab] (b : Dt → En → Option En) (body : Sm) (ds : List Dt) : Out → Option Out
  | .nx ρ2 => forL b body ds ρ2
  | .ct ρ2 => forL b body ds ρ2
  | .bk ρ2 => some (.nx ρ2)
  | o => some o
theorem forL_go {b : Dt → En → Option En} {body : Sm} {d : Dt} {ds : List Dt} {ρ1 : En} {o1 : Out} (hb : b d ρ = some ρ1) (ho : body ρ1 = some o1) : forL b body (d :: ds) ρ = goF b body ds o1 := by
  rw [forL, hb, Option.bind_some, ho, Option.bind_some]
  cases o1 <;> rfl
/-- for, by an invariant of what is left -/
theorem wp_loop {b : Dt → En → Option En} {body : Sm} (I : List Dt → En → Prop) : ∀ (ds : List Dt) (ρ : En), I ds ρ →
    (∀ d rest ρ, I (d :: rest) ρ → ∃ ρ1, b d ρ = some ρ1 ∧ wp body ρ1 (bodyQ (I rest) Q)) → (∀ ρ, I [] ρ → Q (.nx ρ)) → wp (forL b body ds) ρ Q
  | [], ρ, h0, _, hn => ⟨_, rfl, hn ρ h0⟩
  | d :: ds, ρ, h0, hs, hn => by
    obtain ⟨ρ1, hb, o1, ho, q⟩ := hs d ds ρ h0
    have eq1 := forL_go (ds := ds) hb ho
    cases o1 with
    | nx ρ2 =>
      obtain ⟨o, e, q⟩ := wp_loop I ds ρ2 q hs hn
      exact ⟨o, eq1.trans e, q⟩
    | ct ρ2 =>
      obtain ⟨o, e, q⟩ := wp_loop I ds ρ2 q hs hn
      exact ⟨o, eq1.trans e, q⟩
    | bk ρ2 => exact ⟨_, eq1, q⟩
    | rt e ρ2 => exact ⟨_, eq1, q⟩
    | ex c k ρ2 => exact ⟨_, eq1, q⟩
/-- for i in range(lo, lo + n): an invariant of i -/
theorem wp_range {b : Dt → En → Option En} {body : Sm} (I : Nat → En → Prop) {lo c : Int} {n : Nat} {ρ : En} (h0 : I 0 ρ) (hs : ∀ i ρ, i < n → I i ρ → ∃ ρ1, b (.int (lo + (i : Int) * c)) ρ = some ρ1 ∧ wp body ρ1 (bodyQ (I (i + 1)) Q)) (hn : ∀ ρ, I n ρ → Q (.nx ρ)) : wp (forL b body (rgD lo c n)) ρ Q := by
  refine wp_loop (fun ds ρ => ∃ i, i ≤ n ∧ ds = (rgD lo c n).drop i ∧ I i ρ) _ _ ⟨0, Nat.zero_le _, rfl, h0⟩ ?_ ?_
  · rintro d rest ρ ⟨i, hi, e, hI⟩
    have ln : (rgD lo c n).length = n := by simp [rgD]
    have lt : i < n := by
      rcases Nat.lt_or_ge i n with h | h
      · exact h
      · rw [List.drop_of_length_le (by omega)] at e
        cases e
    rw [List.drop_eq_getElem_cons (by omega)] at e
    injection e with e1 e2
    obtain ⟨ρ1, hb, q⟩ := hs i ρ lt hI
    have e3 : d = .int (lo + (i : Int) * c) := by rw [e1]; simp [rgD]
    subst e3
    refine ⟨ρ1, hb, wp_mono q fun o qo => ?_⟩
    cases o with
    | nx ρ2 => exact ⟨i + 1, lt, e2, qo⟩
    | ct ρ2 => exact ⟨i + 1, lt, e2, qo⟩
    | _ => exact qo
  · rintro ρ ⟨i, hi, e, hI⟩
    have ln : (rgD lo c n).length = n := by simp [rgD]
    have : i = n := by
      have := congrArg List.length e
      simp [ln] at this
      omega
    subst this
    exact hn ρ hI
def goW [CTab] (c : En → Option Bool) (b : Sm) (n : Nat) : Out → Option Out
  | .nx ρ2 => whileR c b n ρ2
  | .ct ρ2 => whileR c b n ρ2
  | .bk ρ2 => some (.nx ρ2)
  | o => some o
theorem whileR_go {c : En → Option Bool} {b : Sm} {n : Nat} {o1 : Out} (ht : c ρ = some true) (ho : b ρ = some o1) : whileR c b (n + 1) ρ = goW c b n o1 := by
  rw [whileR, ht, Option.bind_some, if_pos rfl, ho, Option.bind_some]
  cases o1 <;> rfl
theorem wp_while_n {c : En → Option Bool} {b : Sm} (I : Nat → En → Prop) : ∀ (n m : Nat) (ρ : En), m < n → I m ρ →
    (∀ m ρ, I m ρ → ∃ t, c ρ = some t ∧ (t = true → wp b ρ (bodyQ (fun ρ' => ∃ m', m' < m ∧ I m' ρ') Q)) ∧ (t = false → Q (.nx ρ))) → ∃ o, whileR c b n ρ = some o ∧ Q o
  | 0, m, ρ, h, _, _ => by omega
  | n + 1, m, ρ, h, hI, hs => by
    obtain ⟨t, ht, h1, h2⟩ := hs m ρ hI
    cases t with
    | false => exact ⟨_, by unfold whileR; rw [ht]; rfl, h2 rfl⟩
    | true =>
      obtain ⟨o1, ho, q⟩ := h1 rfl
      have eq1 := whileR_go (n := n) ht ho
      cases o1 with
      | nx ρ2 =>
        obtain ⟨m', hm, hI'⟩ := q
        obtain ⟨o, e, q⟩ := wp_while_n I n m' ρ2 (by omega) hI' hs
        exact ⟨o, eq1.trans e, q⟩
      | ct ρ2 =>
        obtain ⟨m', hm, hI'⟩ := q
        obtain ⟨o, e, q⟩ := wp_while_n I n m' ρ2 (by omega) hI' hs
        exact ⟨o, eq1.trans e, q⟩
      | bk ρ2 => exact ⟨_, eq1, q⟩
      | rt e ρ2 => exact ⟨_, eq1, q⟩
      | ex c k ρ2 => exact ⟨_, eq1, q⟩
/-- while, by an invariant with a measure -/
theorem wp_while {c : En → Option Bool} {b : Sm} (I : Nat → En → Prop) {m : Nat} {ρ : En} (h0 : I m ρ)
    (hs : ∀ m ρ, I m ρ → ∃ t, c ρ = some t ∧ (t = true → wp b ρ (bodyQ (fun ρ' => ∃ m', m' < m ∧ I m' ρ') Q)) ∧ (t = false → Q (.nx ρ))) : wp (sWhile c b) ρ Q := by
  obtain ⟨o, e, q⟩ := wp_while_n I (m + 1) m ρ (by omega) h0 hs
  exact ⟨o, sWhile_of e, q⟩
/-! defs -/
def endQ [CTab] (pb : List Bool) (es : List Et) (R : Fz → Prop) : Out → Prop
  | .rt r ρ' => ∃ es', finE pb es ρ' = some es' ∧ R (.ok r es')
  | .nx ρ' => ∃ es', finE pb es ρ' = some es' ∧ R (.ok (.n .non) es')
  | .ex c i ρ' => ∃ es', finE pb es ρ' = some es' ∧ R (.ex c i es')
  | _ => False
theorem endQ_rt {pb : List Bool} {es : List Et} {R : Fz → Prop} {r : Et} {ρ' : En} : endQ pb es R (.rt r ρ') ↔ ∃ es', finE pb es ρ' = some es' ∧ R (.ok r es') := Iff.rfl
theorem endQ_nx {pb : List Bool} {es : List Et} {R : Fz → Prop} {ρ' : En} : endQ pb es R (.nx ρ') ↔ ∃ es', finE pb es ρ' = some es' ∧ R (.ok (.n .non) es') := Iff.rfl
theorem endQ_ex {pb : List Bool} {es : List Et} {R : Fz → Prop} {c : Nat} {i : Int} {ρ' : En} : endQ pb es R (.ex c i ρ') ↔ ∃ es', finE pb es ρ' = some es' ∧ R (.ex c i es') := Iff.rfl
theorem fn_wp {pb : List Bool} {n : Nat} {es : List Et} {R : Fz → Prop} (hl : es.length = pb.length) (h : wp f (es.map some ++ List.replicate (n - es.length) none) (endQ pb es R)) : ∃ z, fnSem pb n f es = some z ∧ R z := by
  obtain ⟨o, e, q⟩ := h
  unfold fnSem
  rw [if_pos hl, e]
  cases o with
  | rt r ρ' =>
    obtain ⟨es', h1, q⟩ := q
    exact ⟨_, by show (finE pb es ρ').map _ = _; rw [h1]; rfl, q⟩
  | nx ρ' =>
    obtain ⟨es', h1, q⟩ := q
    exact ⟨_, by show (finE pb es ρ').map _ = _; rw [h1]; rfl, q⟩
  | ex c i ρ' =>
    obtain ⟨es', h1, q⟩ := q
    exact ⟨_, by show (finE pb es ρ').map _ = _; rw [h1]; rfl, q⟩
  | bk ρ' => cases q
  | ct ρ' => cases q
theorem fn_eq {pb : List Bool} {n : Nat} {es : List Et} {z : Fz} (hl : es.length = pb.length) (h : wp f (es.map some ++ List.replicate (n - es.length) none) (endQ pb es (· = z))) : fnSem pb n f es = some z := by
  obtain ⟨z', e, rfl⟩ := fn_wp hl h
  exact e
/-! readings at a shape -/
section
variable {α β : Type}
theorem ex_bind {o : Option α} {h : α → Option β} {P : β → Prop} : (∃ z, o.bind h = some z ∧ P z) ↔ ∃ x, o = some x ∧ ∃ z, h x = some z ∧ P z := by
  constructor
  · rintro ⟨z, e, p⟩
    obtain ⟨x, hx, e⟩ := bindS e
    exact ⟨x, hx, z, e, p⟩
  · rintro ⟨x, hx, z, e, p⟩
    exact ⟨z, by rw [hx]; exact e, p⟩
theorem ex_map {o : Option α} {h : α → β} {P : β → Prop} : (∃ z, o.map h = some z ∧ P z) ↔ ∃ x, o = some x ∧ P (h x) := by
  constructor
  · rintro ⟨z, e, p⟩
    obtain ⟨x, hx, rfl⟩ := mapS e
    exact ⟨x, hx, p⟩
  · rintro ⟨x, hx, p⟩
    exact ⟨_, by rw [hx]; rfl, p⟩
theorem ex_if {c : Prop} [Decidable c] {o : Option α} {P : α → Prop} : (∃ z, (if c then o else none) = some z ∧ P z) ↔ c ∧ ∃ z, o = some z ∧ P z := by
  constructor
  · rintro ⟨z, e, p⟩
    split at e
    · rename_i h
      exact ⟨h, z, e, p⟩
    · cases e
  · rintro ⟨h, z, e, p⟩
    exact ⟨z, by rw [if_pos h]; exact e, p⟩
theorem ex_some {a : α} {P : α → Prop} : (∃ z, some a = some z ∧ P z) ↔ P a := ⟨fun ⟨z, e, p⟩ => by cases e; exact p, fun p => ⟨a, rfl, p⟩⟩
theorem ex_ite {c : Prop} [Decidable c] {o p : Option α} {P : α → Prop} : (∃ z, (if c then o else p) = some z ∧ P z) ↔ (c → ∃ z, o = some z ∧ P z) ∧ (¬ c → ∃ z, p = some z ∧ P z) := by
  by_cases h : c <;> simp [h]
end
theorem cMul_r {i j : Int} (h : (decide (-(2 ^ 64) < j) && decide (j < 2 ^ 64)) = true) : cMul i j = true := by
  unfold cMul
  rw [h, Bool.or_true]
theorem cMul_l {i j : Int} (h : (decide (-(2 ^ 64) < i) && decide (i < 2 ^ 64)) = true) : cMul i j = true := by
  unfold cMul
  rw [h, Bool.true_or]
theorem mE_eq {h : En → Option Et} : mE h ρ = (h ρ).map fun e => .ok e ρ := rfl
theorem mMv_eq {i : Nat} : mMv i ρ = (getS i ρ).map fun e => .ok e (ρ.set i none) := rfl
section
variable {i j k : Int} {a b : Bool} {xs ys : List Dt} {d e : Dt}
theorem qv_add : sAdd (.int i) (.int j) = some (.int (i + j)) := rfl
theorem qv_addA : sAddA (.int i) (.int j) = some (.int (i + j)) := rfl
theorem qv_addL : sAddA (.lst xs) (.lst ys) = if xs.length + ys.length ≤ sizeLine then some (.lst (xs ++ ys)) else none := rfl
theorem qv_sub : sSub (.int i) (.int j) = some (.int (i - j)) := rfl
theorem qv_mul : sMulA (.int i) (.int j) = if cMul i j = true then some (.int (i * j)) else none := rfl
theorem qv_mulL : sMulA (.lst xs) (.int k) = if -(2 ^ 63) ≤ k ∧ k < 2 ^ 63 ∧ xs.length * k.toNat ≤ sizeLine then some (.lst (List.replicate k.toNat xs).flatten) else none := rfl
theorem qv_div : sDiv (.int i) (.int j) = if 0 < j ∧ j < 1073741824 then some (.int (i / j)) else none := rfl
theorem qv_mod : sMod (.int i) (.int j) = if 0 < j then some (.int (i % j)) else none := rfl
theorem qv_pow : sPow (.int i) (.int j) = if 0 ≤ j ∧ j ≤ 1000000 ∧ i.natAbs < 2 ^ 64 then some (.int (i ^ j.toNat)) else none := rfl
theorem qv_shl : sShl (.int i) (.int j) = if 0 ≤ j ∧ j ≤ 1000000 ∧ i.natAbs < 2 ^ 64 then some (.int (i * 2 ^ j.toNat)) else none := rfl
theorem qv_shr : sShr (.int i) (.int j) = if 0 ≤ j then some (.int (i / 2 ^ j.toNat)) else none := rfl
theorem qv_lt : sLt (.int i) (.int j) = some (.bl (decide (i < j))) := rfl
theorem qv_le : sLe (.int i) (.int j) = some (.bl (decide (i ≤ j))) := rfl
theorem qv_gt : sGt (.int i) (.int j) = some (.bl (decide (j < i))) := rfl
theorem qv_ge : sGe (.int i) (.int j) = some (.bl (decide (j ≤ i))) := rfl
theorem qv_neg : sNeg (.int i) = some (.int (-i)) := rfl
theorem beq_int : (i == j) = decide (i = j) := by rw [Bool.eq_iff_iff]; simp
theorem qv_eqI : sEq (.int i) (.int j) = some (.bl (decide (i = j))) := by
  have : sEq (.int i) (.int j) = some (.bl (i == j)) := rfl
  rw [this, beq_int]
theorem qv_neI : sNe (.int i) (.int j) = some (.bl (decide (i ≠ j))) := by
  have : sNe (.int i) (.int j) = some (.bl (!(i == j))) := rfl
  rw [this, beq_int]
  by_cases h : i = j <;> simp [h]
theorem qv_eqB : sEq (.bl a) (.bl b) = some (.bl (a == b)) := rfl
theorem qv_neB : sNe (.bl a) (.bl b) = some (.bl (!(a == b))) := rfl
theorem qv_ix : ixD (.lst xs) (.int i) = atI xs i := rfl
theorem qv_ixT : ixD (.tup xs) (.int i) = atI xs i := rfl
theorem qv_ixR : ixD (.rl xs) (.int i) = atI xs i := rfl
theorem qv_len : nLen [.lst xs] = some (.int xs.length) := rfl
theorem qv_lenT : nLen [.tup xs] = some (.int xs.length) := rfl
theorem qv_lenR : nLen [.rl xs] = some (.int xs.length) := rfl
theorem qv_abs : nAbs [.int i] = some (.int (if i < 0 then -i else i)) := rfl
theorem qv_int : nInt [.int i] = some (.int i) := rfl
theorem qv_intB : nInt [.bl a] = some (.int (if a then 1 else 0)) := rfl
theorem qv_max2 : nMax2 [.int i, .int j] = some (.int (if j > i then j else i)) := rfl
theorem qv_min2 : nMin2 [.int i, .int j] = some (.int (if j < i then j else i)) := rfl
theorem qv_rg1 : rg1 [.int j] = if lim62 j then some (rgD 0 1 j.toNat) else none := rfl
theorem qv_rg2 : rg2 [.int i, .int j] = if lim62 i ∧ lim62 j then some (rgD i 1 (j - i).toNat) else none := rfl
theorem qv_items : items (.lst xs) = some xs := rfl
theorem qv_itemsT : items (.tup xs) = some xs := rfl
theorem qv_itemsR : items (.rl xs) = some xs := rfl
theorem qv_lst : lstOf (.lst xs) = some xs := rfl
theorem qv_lstR : lstOf (.rl xs) = some xs := rfl
theorem qv_isN0 : sIsN .non .non = some (.bl true) := rfl
theorem qv_isNI : sIsN (.int i) .non = some (.bl false) := rfl
theorem qv_isNL : sIsN (.lst xs) .non = some (.bl false) := rfl
theorem qv_isNT : sIsN (.tup xs) .non = some (.bl false) := rfl
theorem qv_noN0 : sNotN .non .non = some (.bl false) := rfl
theorem qv_noNI : sNotN (.int i) .non = some (.bl true) := rfl
theorem qv_noNL : sNotN (.lst xs) .non = some (.bl true) := rfl
theorem qv_noNT : sNotN (.tup xs) .non = some (.bl true) := rfl
end
section
variable {f g h : En → Option Dt} {t u : En → Option Bool} {fa : En → Option (List Dt)} {i : Nat} {d : Dt}
theorem p_V : pV i ρ = (getS i ρ).map toD := by
  unfold pV getS
  split <;> rename_i h <;> simp_all
end
/-- a truth as data -/
def asB : Dt → Option Bool | .bl b => some b | _ => none
theorem p_B' {f : En → Option Dt} : bP f ρ = (f ρ).bind asB := by
  unfold bP
  cases h : f ρ with
  | none => rfl
  | some d => cases d <;> rfl
theorem asB_bl {b : Bool} : asB (.bl b) = some b := rfl
theorem p_E {f : En → Option Dt} : eP f ρ = (f ρ).bind fun d => if sc d = true then some (.n d) else none := rfl
theorem sc_int {i : Int} : sc (.int i) = true := rfl
theorem sc_bl {b : Bool} : sc (.bl b) = true := rfl
theorem sc_non : sc .non = true := rfl
theorem p_ch {s s' : Dt → Dt → Option Dt} {f g h : En → Option Dt} : pCh s s' f g h ρ = (f ρ).bind fun x => (g ρ).bind fun y => (s x y).bind fun z => (asB z).bind fun b => if b = true then (h ρ).bind fun w => s' y w else some (.bl false) := by
  unfold pCh
  cases hf : f ρ with
  | none => rfl
  | some x =>
    cases hg : g ρ with
    | none => rfl
    | some y =>
      cases hs : s x y with
      | none => simp [hs]
      | some z => cases z with
        | bl b => cases b <;> (simp [hs, asB])
        | _ => simp [hs, asB]
theorem atI_nat {α : Type} {xs : List α} {i : Int} (h0 : 0 ≤ i) (h1 : i < xs.length) : atI xs i = xs[i.toNat]? := by
  unfold atI ixN
  simp only [h0, h1, if_true, and_self]
  try rfl
theorem atI_map {α β : Type} {f : α → β} {xs : List α} {i : Int} : atI (xs.map f) i = (atI xs i).map f := by
  unfold atI
  rw [List.length_map]
  cases ixN xs.length i with
  | none => rfl
  | some j => simp
theorem atI_some {α : Type} {xs : List α} {i : Int} (h0 : 0 ≤ i) (h1 : i < xs.length) : ∃ x, atI xs i = some x ∧ xs[i.toNat]? = some x ∧ x ∈ xs := by
  have h2 : i.toNat < xs.length := by omega
  exact ⟨xs[i.toNat], by rw [atI_nat h0 h1]; simp [h2], by simp [h2], List.getElem_mem h2⟩
theorem snoc_i {xs : List Int} {i : Int} : xs.map Dt.int ++ [Dt.int i] = (xs ++ [i]).map Dt.int := by simp
theorem appE_fl {xs : List Int} {i : Int} : appE (.fl (xs.map .int)) (.n (.int i)) = some (.fl ((xs ++ [i]).map .int)) := by
  rw [List.map_append]
  rfl
/-! comprehensions, slices, calls -/
section
variable {b : Dt → En → Option En} {t : En → Option Bool} {e : En → Option Dt}
theorem cLp_f {p : Dt → Bool} {f : Dt → Dt} : ∀ {ds : List Dt}, (∀ d ∈ ds, ∃ ρ1, b d ρ = some ρ1 ∧ t ρ1 = some (p d) ∧ (p d = true → e ρ1 = some (f d))) → cLp b t e ρ ds = some ((ds.filter p).map f)
  | [], _ => rfl
  | d :: ds, h => by
    obtain ⟨ρ1, h1, h2, h3⟩ := h d (by simp)
    have ih := cLp_f (ds := ds) fun d hd => h d (by simp [hd])
    unfold cLp
    rw [h1, Option.bind_some, h2, Option.bind_some]
    by_cases hp : p d = true
    · rw [hp, if_pos rfl, h3 hp, Option.bind_some, ih, Option.bind_some, List.filter_cons_of_pos hp, List.map_cons]
    · have hp' : p d = false := by simpa using hp
      rw [hp', if_neg (by simp), ih, List.filter_cons_of_neg (by simp [hp'])]
theorem cLp_e {P : Dt → Dt → Prop} : ∀ {ds : List Dt}, (∀ d ∈ ds, ∃ ρ1 x, b d ρ = some ρ1 ∧ t ρ1 = some true ∧ e ρ1 = some x ∧ P d x) → ∃ xs, cLp b t e ρ ds = some xs ∧ xs.length = ds.length ∧ ∀ (i : Nat) (d x : Dt), ds[i]? = some d → xs[i]? = some x → P d x
  | [], _ => ⟨[], rfl, rfl, fun i d x h => by simp at h⟩
  | d :: ds, h => by
    obtain ⟨ρ1, x, h1, h2, h3, h4⟩ := h d (by simp)
    obtain ⟨xs, e1, e2, e3⟩ := cLp_e (ds := ds) fun d hd => h d (by simp [hd])
    refine ⟨x :: xs, ?_, by simp [e2], fun i d' x' => ?_⟩
    · unfold cLp
      rw [h1, Option.bind_some, h2, Option.bind_some, if_pos rfl, h3, Option.bind_some, e1, Option.bind_some]
    · cases i with
      | zero =>
        intro a1 a2
        simp at a1 a2
        subst a1
        subst a2
        exact h4
      | succ i =>
        intro a1 a2
        exact e3 i d' x' (by simpa using a1) (by simpa using a2)
theorem mem_rgD {lo c : Int} {n : Nat} {d : Dt} (h : d ∈ rgD lo c n) : ∃ i, i < n ∧ d = .int (lo + (i : Int) * c) := by
  simp only [rgD, List.mem_map, List.mem_range] at h
  obtain ⟨i, h1, h2⟩ := h
  exact ⟨i, h1, h2.symm⟩
/-- over a range, kept by p, each gives a number -/
theorem cLp_rF {n : Nat} {lo c : Int} {p : Nat → Bool} {g : Nat → Int} (h : ∀ i, i < n → ∃ ρ1, b (.int (lo + (i : Int) * c)) ρ = some ρ1 ∧ t ρ1 = some (p i) ∧ (p i = true → e ρ1 = some (.int (g i)))) : cLp b t e ρ (rgD lo c n) = some ((((List.range n).filter p).map g).map .int) := by
  have gen : ∀ l : List Nat, (∀ i ∈ l, i < n) → cLp b t e ρ (l.map fun (i : Nat) => .int (lo + (i : Int) * c)) = some (((l.filter p).map g).map .int) := by
    intro l
    induction l with
    | nil => intro _; rfl
    | cons i l ih =>
      intro hl
      obtain ⟨ρ1, h1, h2, h3⟩ := h i (hl i (by simp))
      have ih := ih fun j hj => hl j (by simp [hj])
      rw [List.map_cons]
      unfold cLp
      rw [h1, Option.bind_some, h2, Option.bind_some]
      by_cases hp : p i = true
      · rw [hp, if_pos rfl, h3 hp, Option.bind_some, ih, Option.bind_some, List.filter_cons_of_pos hp, List.map_cons, List.map_cons]
      · have hp' : p i = false := by simpa using hp
        rw [hp', if_neg (by simp), ih, List.filter_cons_of_neg (by simp [hp'])]
  exact gen _ fun i hi => by simpa using hi
theorem cLp_r {n : Nat} {lo c : Int} {g : Nat → Int} (h : ∀ i, i < n → ∃ ρ1, b (.int (lo + (i : Int) * c)) ρ = some ρ1 ∧ t ρ1 = some true ∧ e ρ1 = some (.int (g i))) : cLp b t e ρ (rgD lo c n) = some (((List.range n).map g).map .int) := by
  have := cLp_rF (p := fun _ => true) (g := g) fun i hi => by
    obtain ⟨ρ1, h1, h2, h3⟩ := h i hi
    exact ⟨ρ1, h1, h2, fun _ => h3⟩
  rwa [List.filter_eq_self.mpr fun _ _ => rfl] at this
end
theorem cutD_map {xs : List Int} {lo hi : Option Int} : cutD (xs.map .int) lo hi = ((xs.drop (HT.sIx xs.length 0 lo)).take (HT.sIx xs.length xs.length hi - HT.sIx xs.length 0 lo)).map .int := by
  unfold cutD
  rw [List.length_map, List.map_take, List.map_drop]
theorem sIx_pos {n d : Nat} {i : Int} (h : 0 ≤ i) : HT.sIx n d (some i) = min i.toNat n := by
  show (if i < 0 then _ else _) = _
  rw [if_neg (by omega)]
theorem sIx_no {n d : Nat} : HT.sIx n d none = d := rfl
theorem cP_of {g : Fn} {ds : List Dt} {d : Dt} {r : Et} {es : List Et} (h : g (ds.map .o) = some (.ok r es)) (e : toD r = d := by rfl) : cP g ds = some d := by
  unfold cP
  rw [h, ← e]
theorem cE_of {g : Fn} {ds : List Dt} {r : Et} {es : List Et} (h : g (ds.map .o) = some (.ok r es)) (o : own r = true := by rfl) : cE g ds = some r := by
  unfold cE
  rw [h]
  show (if own r = true then some r else none) = _
  rw [if_pos o]
theorem all_sc {xs : List Int} : (xs.map Dt.int).all sc = true := by
  rw [List.all_eq_true]
  intro d hd
  obtain ⟨i, _, rfl⟩ := List.mem_map.mp hd
  rfl
theorem map_app {xs ys : List Int} : xs.map Dt.int ++ ys.map Dt.int = (xs ++ ys).map Dt.int := by simp
theorem rep_fl {k : Nat} {x : Dt} : (List.replicate k [x]).flatten = List.replicate k x := by
  induction k with
  | zero => rfl
  | succ k ih => rw [List.replicate_succ, List.flatten_cons, ih]; rfl
theorem rep_int {k : Nat} {i : Int} : List.replicate k (Dt.int i) = (List.replicate k i).map .int := by simp
theorem atI_getD {xs : List Int} {i : Int} (h0 : 0 ≤ i) (h1 : i < xs.length) : atI xs i = some (xs.getD i.toNat 0) := by
  obtain ⟨x, hx, h2, _⟩ := atI_some h0 h1
  rw [hx, List.getD, h2]
  rfl
theorem intsOf_m (xs : List Int) : intsOf (xs.map .int) = some xs := intsOf_map xs
theorem qv_min {xs : List Int} : nMin [.lst (xs.map .int)] = (minL xs).map .int := by
  show (intsOf (xs.map Dt.int)).bind _ = _
  rw [intsOf_map]
  rfl
theorem qv_max {xs : List Int} : nMax [.lst (xs.map .int)] = (maxL xs).map .int := by
  show (intsOf (xs.map Dt.int)).bind _ = _
  rw [intsOf_map]
  rfl
theorem qv_sum {xs : List Int} : nSum [.lst (xs.map .int)] = some (.int xs.sum) := by
  show (intsOf (xs.map Dt.int)).bind _ = _
  rw [intsOf_map]
  rfl
theorem wp_loop0 {b : Dt → En → Option En} {body : Sm} : wp (forL b body []) ρ Q ↔ Q (.nx ρ) := ⟨fun ⟨_, e, q⟩ => by cases e; exact q, fun q => ⟨_, rfl, q⟩⟩
theorem wp_loop1 {b : Dt → En → Option En} {body : Sm} {d : Dt} {ds : List Dt} (h : ∃ ρ1, b d ρ = some ρ1 ∧ wp body ρ1 (bodyQ (fun ρ' => wp (forL b body ds) ρ' Q) Q)) : wp (forL b body (d :: ds)) ρ Q := by
  obtain ⟨ρ1, hb, o1, ho, q⟩ := h
  have eq1 := forL_go (ds := ds) hb ho
  cases o1 with
  | nx ρ2 => obtain ⟨o, e, q⟩ := q; exact ⟨o, eq1.trans e, q⟩
  | ct ρ2 => obtain ⟨o, e, q⟩ := q; exact ⟨o, eq1.trans e, q⟩
  | bk ρ2 => exact ⟨_, eq1, q⟩
  | rt e ρ2 => exact ⟨_, eq1, q⟩
  | ex c k ρ2 => exact ⟨_, eq1, q⟩
theorem sc_lst {xs : List Dt} : sc (.lst xs) = false := rfl
theorem sc_tup {xs : List Dt} : sc (.tup xs) = false := rfl
theorem sc_ob {c : Nat} {xs : List Dt} : sc (.ob c xs) = false := rfl
theorem cut0 {xs : List Int} {i : Int} (h : 0 ≤ i) : (xs.drop 0).take (HT.sIx xs.length xs.length (some i) - 0) = xs.take i.toNat := by
  rw [sIx_pos h, List.drop_zero, Nat.sub_zero]
  by_cases hl : i.toNat ≤ xs.length
  · rw [Nat.min_eq_left hl]
  · rw [Nat.min_eq_right (by omega), List.take_length, List.take_of_length_le (by omega)]
theorem cutM {xs : List Int} {i j : Int} (h : 0 ≤ i) (h2 : i ≤ j) (h3 : j ≤ xs.length) : (xs.drop (HT.sIx xs.length 0 (some i))).take (HT.sIx xs.length xs.length (some j) - HT.sIx xs.length 0 (some i)) = (xs.drop i.toNat).take (j - i).toNat := by
  rw [sIx_pos h, sIx_pos (by omega), Nat.min_eq_left (by omega), Nat.min_eq_left (by omega)]
  congr 1
  omega
theorem cutE {xs : List Int} {i : Int} (h : 0 ≤ i) (h2 : i ≤ xs.length) : (xs.drop (HT.sIx xs.length 0 (some i))).take (xs.length - HT.sIx xs.length 0 (some i)) = xs.drop i.toNat := by
  rw [sIx_pos h, Nat.min_eq_left (by omega)]
  exact List.take_of_length_le (by simp)
end Qs
namespace Qs
open PySem PySem.Spec PyProof.Rows L2
/-! ### equality of numbers, Nones, lists and tuples -/
inductive Fine [CTab] : Nat → Dt → Prop
  | non {k} : Fine k .non
  | int {k i} : Fine k (.int i)
  | lst {k xs} : (∀ x ∈ xs, Fine k x) → Fine (k + 1) (.lst xs)
  | tup {k xs} : (∀ x ∈ xs, Fine k x) → Fine (k + 1) (.tup xs)
variable [CTab]
theorem Fine.up : ∀ {k : Nat} {d : Dt}, Fine k d → Fine (k + 1) d
  | _, _, .non => .non
  | _, _, .int => .int
  | _ + 1, _, .lst h => .lst fun x hx => (h x hx).up
  | _ + 1, _, .tup h => .tup fun x hx => (h x hx).up
theorem Fine.le {j k : Nat} {d : Dt} (h : Fine j d) (e : j ≤ k) : Fine k d := by
  induction e with
  | refl => exact h
  | step _ ih => exact ih.up
theorem fine_ints {k : Nat} (xs : List Int) : Fine (k + 1) (.lst (xs.map .int)) := .lst fun x hx => by
  obtain ⟨i, _, rfl⟩ := List.mem_map.mp hx
  exact .int
theorem toPys_each : ∀ {xs : List Dt}, (∀ x ∈ xs, ∃ p, toPy x = some p) → ∃ ps, toPys xs = some ps ∧ ps.length = xs.length ∧ ∀ p ∈ ps, ∃ x ∈ xs, toPy x = some p
  | [], _ => ⟨[], rfl, rfl, fun p h => by cases h⟩
  | x :: xs, h => by
    obtain ⟨p, hp⟩ := h x (by simp)
    obtain ⟨ps, h1, h2, h3⟩ := toPys_each (xs := xs) fun y hy => h y (by simp [hy])
    refine ⟨p :: ps, by simp [toPys, hp, h1], by simp [h2], fun q hq => ?_⟩
    rcases List.mem_cons.mp hq with e | e
    · subst e
      exact ⟨x, by simp, hp⟩
    · obtain ⟨y, hy, e2⟩ := h3 q e
      exact ⟨y, by simp [hy], e2⟩
theorem depthAll_le {k : Nat} : ∀ {ps : List PyData}, (∀ p ∈ ps, p.depth ≤ k) → PyData.depthAll ps ≤ k
  | [], _ => Nat.zero_le _
  | p :: ps, h => by
    unfold PyData.depthAll
    exact Nat.max_le.mpr ⟨h p (by simp), depthAll_le fun q hq => h q (by simp [hq])⟩
theorem canAll {ps : List PyData} (h : ∀ p ∈ ps, p.canLay0 = true) : PyData.canLayAll0 ps = true := by
  induction ps with
  | nil => rfl
  | cons p ps ih =>
    unfold PyData.canLayAll0
    rw [h p (by simp), ih fun q hq => h q (by simp [hq])]
    rfl
theorem fine_py {k : Nat} {d : Dt} (h : Fine k d) : ∃ p, toPy d = some p ∧ p.canLay0 = true ∧ p.depth ≤ k := by
  induction h with
  | non => exact ⟨_, rfl, rfl, Nat.zero_le _⟩
  | int => exact ⟨_, rfl, rfl, Nat.zero_le _⟩
  | lst h ih =>
    obtain ⟨ps, h1, h2, h3⟩ := toPys_each fun x hx => let ⟨p, e, _⟩ := ih x hx; ⟨p, e⟩
    refine ⟨.list ps, by simp [toPy, h1], ?_, ?_⟩
    · unfold PyData.canLay0
      exact canAll fun p hp => by
        obtain ⟨x, hx, e⟩ := h3 p hp
        obtain ⟨q, e2, c, _⟩ := ih x hx
        rw [e] at e2
        cases e2
        exact c
    · unfold PyData.depth
      exact Nat.succ_le_succ (depthAll_le fun p hp => by
        obtain ⟨x, hx, e⟩ := h3 p hp
        obtain ⟨q, e2, _, c⟩ := ih x hx
        rw [e] at e2
        cases e2
        exact c)
  | tup h ih =>
    obtain ⟨ps, h1, h2, h3⟩ := toPys_each fun x hx => let ⟨p, e, _⟩ := ih x hx; ⟨p, e⟩
    refine ⟨.tuple ps, by simp [toPy, h1], ?_, ?_⟩
    · unfold PyData.canLay0
      exact canAll fun p hp => by
        obtain ⟨x, hx, e⟩ := h3 p hp
        obtain ⟨q, e2, c, _⟩ := ih x hx
        rw [e] at e2
        cases e2
        exact c
    · unfold PyData.depth
      exact Nat.succ_le_succ (depthAll_le fun p hp => by
        obtain ⟨x, hx, e⟩ := h3 p hp
        obtain ⟨q, e2, _, c⟩ := ih x hx
        rw [e] at e2
        cases e2
        exact c)
theorem eqvAll_iff {k : Nat} (ih : ∀ x y p q, Fine k x → Fine k y → toPy x = some p → toPy y = some q → (PyData.eqv p q = true ↔ x = y)) : ∀ {xs ys : List Dt} {ps qs : List PyData}, (∀ x ∈ xs, Fine k x) → (∀ y ∈ ys, Fine k y) → toPys xs = some ps → toPys ys = some qs → (PyData.eqvAll ps qs = true ↔ xs = ys)
  | [], [], _, _, _, _, e1, e2 => by
    cases e1; cases e2
    simp [PyData.eqvAll]
  | [], y :: ys, _, qs, _, _, e1, e2 => by
    cases e1
    simp only [toPys, Option.bind_eq_some_iff, Option.map_eq_some_iff] at e2
    obtain ⟨q, _, qs', _, rfl⟩ := e2
    simp [PyData.eqvAll]
  | x :: xs, [], ps, _, _, _, e1, e2 => by
    cases e2
    simp only [toPys, Option.bind_eq_some_iff, Option.map_eq_some_iff] at e1
    obtain ⟨q, _, qs', _, rfl⟩ := e1
    simp [PyData.eqvAll]
  | x :: xs, y :: ys, ps, qs, h1, h2, e1, e2 => by
    simp only [toPys, Option.bind_eq_some_iff, Option.map_eq_some_iff] at e1 e2
    obtain ⟨p, a1, ps', a2, rfl⟩ := e1
    obtain ⟨q, b1, qs', b2, rfl⟩ := e2
    unfold PyData.eqvAll
    rw [Bool.and_eq_true, ih x y p q (h1 x (by simp)) (h2 y (by simp)) a1 b1, eqvAll_iff ih (fun z hz => h1 z (by simp [hz])) (fun z hz => h2 z (by simp [hz])) a2 b2, List.cons.injEq]
theorem eqv_iff2 : ∀ {k : Nat} {x y : Dt} {p q : PyData}, Fine k x → Fine k y → toPy x = some p → toPy y = some q → (PyData.eqv p q = true ↔ x = y) := by
  intro k
  induction k with
  | zero =>
    intro x y p q hx hy e1 e2
    cases hx <;> cases hy <;> (simp only [toPy, Option.some.injEq] at e1 e2; subst e1; subst e2; simp [PyData.eqv])
  | succ k ih =>
    intro x y p q hx hy e1 e2
    have ih2 := @eqvAll_iff _ k (fun x y p q a b c d => ih a b c d)
    cases hx <;> cases hy <;> simp only [toPy, Option.some.injEq, Option.map_eq_some_iff] at e1 e2
    case lst.lst h _ h' =>
      obtain ⟨ps, a1, rfl⟩ := e1
      obtain ⟨qs, b1, rfl⟩ := e2
      unfold PyData.eqv
      rw [ih2 h h' a1 b1, Dt.lst.injEq]
    case tup.tup h _ h' =>
      obtain ⟨ps, a1, rfl⟩ := e1
      obtain ⟨qs, b1, rfl⟩ := e2
      unfold PyData.eqv
      rw [ih2 h h' a1 b1, Dt.tup.injEq]
    all_goals
      first
        | (subst e1; subst e2; simp [PyData.eqv])
        | (obtain ⟨ps, a1, rfl⟩ := e1; subst e2; simp [PyData.eqv])
        | (obtain ⟨qs, b1, rfl⟩ := e2; subst e1; simp [PyData.eqv])
        | (obtain ⟨qs, b1, rfl⟩ := e2; obtain ⟨ps, a1, rfl⟩ := e1; simp [PyData.eqv])
theorem eqD_fine {k : Nat} {x y : Dt} (hx : Fine k x) (hy : Fine k y) (hk : k ≤ 64) : ∃ b, eqD x y = some b ∧ (b = true ↔ x = y) := by
  obtain ⟨p, a1, a2, a3⟩ := fine_py hx
  obtain ⟨q, b1, b2, b3⟩ := fine_py hy
  refine ⟨PyData.eqv p q, ?_, eqv_iff2 hx hy a1 b1⟩
  have s1 : SeqAt.shaped p = true := by unfold SeqAt.shaped; simp [a2]; omega
  have s2 : SeqAt.shaped q = true := by unfold SeqAt.shaped; simp [b2]; omega
  unfold eqD
  rw [a1, b1]
  show (if _ then _ else _) = _
  rw [if_pos ⟨s1, s2⟩]
theorem eq_self_ {k : Nat} {x : Dt} (hx : Fine k x) (hk : k ≤ 64) : sEq x x = some (.bl true) := by
  obtain ⟨b, e, h⟩ := eqD_fine hx hx hk
  unfold sEq
  rw [e, h.mpr rfl]
  rfl
theorem ne_self_ {k : Nat} {x : Dt} (hx : Fine k x) (hk : k ≤ 64) : sNe x x = some (.bl false) := by
  obtain ⟨b, e, h⟩ := eqD_fine hx hx hk
  unfold sNe
  rw [e, h.mpr rfl]
  rfl
theorem eq_fine {k : Nat} {x y : Dt} (hx : Fine k x) (hy : Fine k y) (hk : k ≤ 64) : ∃ b, sEq x y = some (.bl b) ∧ (b = true ↔ x = y) := by
  obtain ⟨b, e, h⟩ := eqD_fine hx hy hk
  exact ⟨b, by unfold sEq; rw [e]; rfl, h⟩
theorem ne_fine {k : Nat} {x y : Dt} (hx : Fine k x) (hy : Fine k y) (hk : k ≤ 64) : ∃ b, sNe x y = some (.bl b) ∧ (b = true ↔ x ≠ y) := by
  obtain ⟨b, e, h⟩ := eqD_fine hx hy hk
  refine ⟨!b, by unfold sNe; rw [e]; rfl, ?_⟩
  cases b <;> simp_all
end Qs
namespace Qs
open PySem PySem.Spec PyProof.Rows L2
variable [CTab]
variable {K : PySem.W.Frag} {A F N H F' N' H' : Hp} {pn : List (Nat × V)} {σ : L2.St} {ρ : En} {vs : List V} {es : List Et} {X : Cx}
/-! ### comprehensions of owned things -/
/-- an object that is written to, alien for a while -/
def addD (A : Hp) (D : Addr) (o : HO) : Hp := fun a => if a = D then some o else A a
theorem del_ne {D a : Addr} {H : Hp} (h : a ≠ D) : del D H a = H a := if_neg h
theorem Rp.noD {D : Addr} (r : Rp K A F N (del D H) pn σ ρ vs es) : A D = none ∧ N D = none ∧ F D = none := by
  have h : ∀ {U : Hp}, Same U (del D H) → U D = none := fun {U} s => by
    cases q : U D with
    | none => rfl
    | some o => have := s D o q; rw [del_at] at this; cases this
  exact ⟨h r.sA, h r.sN, h r.sF⟩
theorem Rp.alien {D : Addr} {o : HO} (r : Rp K A F N (del D H) pn σ ρ [] []) (hD : H D = some o) : Rp K (addD A D o) F N H pn σ ρ [] [] ∧ ∀ (F' N' H' : Hp) (σ' : L2.St) (ρ' : En) (ws : List V) (gs : List Et), Stp F N F' N' → Rp K (addD A D o) F' N' H' pn σ' ρ' ws gs → Rp K A F' N' (del D H') pn σ' ρ' ws gs ∧ H' D = some o := by
  obtain ⟨aD, nD, fD⟩ := r.noD
  have ad : addD A D o D = some o := if_pos rfl
  have an : ∀ a, a ≠ D → addD A D o a = A a := fun a h => if_neg h
  constructor
  · obtain ⟨fp, gp, h1, h2, h3, h4⟩ := r.own
    have tr : ∀ a ∈ fp, a ≠ D := fun a ha e => by
      obtain ⟨o, h⟩ := h1.tracked a ha
      rw [e, del_at] at h
      cases h
    cases h2
    refine ⟨⟨fp, [], h1.frame (Same.refl _) (Same.refl _) fun a ha => (del_ne (tr a ha)).symm, .nil, h3, fun a ha => ?_⟩, fun a u h => ?_, fun a u h => ?_, fun a u h => ?_, r.nF, fun a u h => ?_, r.pin⟩
    · rw [an a (tr a (by simpa using ha))]
      exact h4 a ha
    · by_cases e : a = D
      · subst e
        rw [ad] at h
        cases h
        exact hD
      · rw [an a e] at h
        exact del_same _ _ (r.sA a u h)
    · exact del_same _ _ (r.sN a u h)
    · have e : a ≠ D := fun e => by subst e; rw [nD] at h; cases h
      rw [an a e]
      exact r.nA a u h
    · rcases r.fA a u h with z | z
      · have e : a ≠ D := fun e => by subst e; rw [aD] at z; cases z
        exact .inl (by rw [an a e]; exact z)
      · exact .inr z
  · intro F' N' H' σ' ρ' ws gs st r'
    obtain ⟨fp, gp, h1, h2, h3, h4⟩ := r'.own
    have ne : ∀ a ∈ fp ++ gp, a ≠ D := fun a ha e => by
      have := (h4 a ha).1
      rw [e, ad] at this
      cases this
    have nD' : N' D = none := by
      cases q : N' D with
      | none => rfl
      | some u => have := r'.nA D u q; rw [ad] at this; cases this
    have fD' : F' D = none := by
      cases q : F' D with
      | none => rfl
      | some u =>
        rcases st.fN D u q with z | z
        · rw [fD] at z; cases z
        · rw [nD'] at z; cases z
    refine ⟨⟨⟨fp, gp, h1.frame (Same.refl _) (Same.refl _) fun a ha => del_ne (ne a (by simp [ha])), h2.frame (Same.refl _) (Same.refl _) fun a ha => del_ne (ne a (by simp [ha])), h3, fun a ha => ?_⟩, fun a u h => ?_, fun a u h => ?_, fun a u h => ?_, r'.nF, fun a u h => ?_, r'.pin⟩, r'.sA D o ad⟩
    · have := h4 a ha
      rw [an a (ne a ha)] at this
      exact this
    · have e : a ≠ D := fun e => by subst e; rw [aD] at h; cases h
      rw [del_ne e]
      exact r'.sA a u (by rw [an a e]; exact h)
    · have e : a ≠ D := fun e => by subst e; rw [nD'] at h; cases h
      rw [del_ne e]
      exact r'.sN a u h
    · have e : a ≠ D := fun e => by subst e; rw [nD'] at h; cases h
      have := r'.nA a u h
      rwa [an a e] at this
    · have e : a ≠ D := fun e => by subst e; rw [fD'] at h; cases h
      rcases r'.fA a u h with z | z
      · exact .inl (by rwa [an a e] at z)
      · exact .inr z
theorem Rp.wipe {ws : List Nat} (r : Rp K A F N H pn σ ρ vs es) (hl : ∀ i ∈ ws, i < ρ.length) (hp : ∀ i ∈ ws, ∀ p ∈ pn, p.1 ≠ i) : Rp K A F N H pn (L2.wipe σ ws) (wipeE ρ ws) vs es := by
  induction ws with
  | nil => exact r
  | cons i ws ih =>
    have r1 := ih (fun j hj => hl j (by simp [hj])) fun j hj => hp j (by simp [hj])
    exact r1.forget (by rw [wipeE_length]; exact hl i (by simp)) (hp i (by simp))
/-- a leaf, or nothing -/
def okW (ρ : En) (ws : List Nat) : Bool := ws.all fun i => match ρ[i]? with | some none => true | some (some (.n _)) => true | some (some (.o _)) => true | _ => false
theorem ownS_back {i : Nat} : ∀ {σ : L2.St} {ρ : En} {fp : List Addr}, OwnS K F N H (σ.set i none) (ρ.set i none) fp → σ.length = ρ.length → (∀ e, ρ[i]? = some (some e) → ∃ v, σ[i]? = some (some v) ∧ Own K F N H v e []) → OwnS K F N H σ ρ fp
  | [], [], fp, h, _, _ => by simpa using h
  | [], _ :: _, _, _, hl, _ => by simp at hl
  | _ :: _, [], _, _, hl, _ => by simp at hl
  | x :: σ, e :: ρ, fp, h, hl, k => by
    cases i with
    | zero =>
      simp only [List.set_cons_zero] at h
      cases h with
      | skip t =>
        cases e with
        | none => exact .skip t
        | some e =>
          obtain ⟨v, h1, h2⟩ := k e rfl
          simp at h1
          subst h1
          exact .cons (fp := []) h2 t
    | succ i =>
      simp only [List.set_cons_succ] at h
      have kk : ∀ e, ρ[i]? = some (some e) → ∃ v, σ[i]? = some (some v) ∧ Own K F N H v e [] := fun e' he => by
        obtain ⟨v, h1, h2⟩ := k e' (by simpa using he)
        exact ⟨v, by simpa using h1, h2⟩
      cases h with
      | skip t => exact .skip (ownS_back t (by simpa using hl) kk)
      | cons h t => exact .cons h (ownS_back t (by simpa using hl) kk)
theorem ownS_unwipe : ∀ {ws : List Nat} {σ : L2.St} {ρ : En} {fp : List Addr}, OwnS K F N H (L2.wipe σ ws) (wipeE ρ ws) fp → σ.length = ρ.length → (∀ i ∈ ws, ∀ e, ρ[i]? = some (some e) → ∃ v, σ[i]? = some (some v) ∧ Own K F N H v e []) → OwnS K F N H σ ρ fp
  | [], _, _, _, h, _, _ => h
  | i :: ws, σ, ρ, fp, h, hl, k => by
    refine ownS_unwipe (ws := ws) (ownS_back (i := i) h (by rw [L2.wipe_length, wipeE_length, hl]) fun e he => ?_) hl fun j hj => k j (by simp [hj])
    obtain ⟨h1, h2⟩ := wipeE_some he
    obtain ⟨v, a, b⟩ := k i (by simp) e h1
    exact ⟨v, by rw [L2.wipe_out h2]; exact a, b⟩
theorem Rp.unwipe {ws : List Nat} (r : Rp K A F N H pn σ ρ [] []) (ok : okW ρ ws = true) (st : Stp F N F' N') {xs : List V} {gs : List Et} (r' : Rp K A F' N' H' pn (L2.wipe σ ws) (wipeE ρ ws) xs gs) : Rp K A F' N' H' pn σ ρ xs gs := by
  obtain ⟨fp, gp, h1, h2, h3, h4⟩ := r'.own
  have ln : σ.length = ρ.length := by
    obtain ⟨_, _, h, _⟩ := r.own
    exact h.len
  refine ⟨⟨fp, gp, ownS_unwipe h1 ln fun i hi e he => ?_, h2, h3, h4⟩, r'.sA, r'.sN, r'.nA, r'.nF, r'.fA, r.pin⟩
  have := List.all_eq_true.mp ok i hi
  rw [he] at this
  obtain ⟨v, fq, hv, ho⟩ := r.at he
  cases ho with
  | n d => exact ⟨v, hv, .n (d.mono st.sN)⟩
  | o d => exact ⟨v, hv, .o (d.mono st.sF)⟩
  | _ => cases this
/-! targets of a block, for owned things -/
def tGW (K : PySem.W.Frag) (pn : List (Nat × V)) (ws : List Nat) (b : Dt → En → Option En) : TG := fun v σ H Q => ∃ A F N ρ d ρ', Rp K A F N H pn σ ρ [] [] ∧ Dat K F v d ∧ b d ρ = some ρ' ∧ ∀ σ', Rp K A F N H pn σ' ρ' [] [] → L2.wipe σ' ws = L2.wipe σ ws → Q σ' H
def tGWs (K : PySem.W.Frag) (pn : List (Nat × V)) (ws : List Nat) (b : List Dt → En → Option En) : TGs := fun xs σ H Q => ∃ A F N ρ ds ρ', Rp K A F N H pn σ ρ [] [] ∧ Dats K F xs ds ∧ b ds ρ = some ρ' ∧ ∀ σ', Rp K A F N H pn σ' ρ' [] [] → L2.wipe σ' ws = L2.wipe σ ws → Q σ' H
abbrev QGW (X : Cx) (pn : List (Nat × V)) (ws : List Nat) (tg : Expr) (b : Dt → En → Option En) : Prop := PG X tg (tGW X.K pn ws b)
abbrev QGWs (X : Cx) (pn : List (Nat × V)) (ws : List Nat) (tgs : List Expr) (b : List Dt → En → Option En) : Prop := PGs X tgs (tGWs X.K pn ws b)
variable {pos : Pos}
theorem gw_name {i : Nat} {x : Str} {ws : List Nat} (hN : X.N.Nodup) (hp : NoPin pn i := by intro p h; simp at h) (hi : X.N[i]? = some x := by rfl) (hx : Loc X.env.scope x := by first | exact Or.inl rfl | exact Or.inr rfl) (hv : i ∈ ws := by decide) (hf : X.fn x = true ∨ X.env.scope.names.lookup x = some .local := by first | exact .inl rfl | exact .inr rfl | assumption) : QGW X pn ws (.Name x pos) (bN i) :=
  (pg_name hN hi hx hf).weak fun v σ H Q ⟨A, F, N, ρ, d, ρ', r, dv, hb, k⟩ => by
    unfold bN at hb
    split at hb
    · rename_i hl
      cases hb
      exact k _ ((r.leaf (lf_own dv)).store hl hp) (wipe_set hv)
    · cases hb
theorem gws_nil {ws : List Nat} : QGWs X pn ws [] gsNil := pgs_nil.weak fun xs σ H Q ⟨A, F, N, ρ, ds, ρ', r, dv, hb, k⟩ => by
  unfold gsNil at hb
  split at hb
  · cases hb
    cases dv
    exact ⟨rfl, k σ r rfl⟩
  · cases hb
theorem gws_cons {ws : List Nat} {t : Expr} {ts : List Expr} {b : Dt → En → Option En} {bs : List Dt → En → Option En} (h1 : QGW X pn ws t b) (h2 : QGWs X pn ws ts bs) (hs : (assignEach (t :: ts) X.env).map (·.2) = assign t X.env :: (assignEach ts X.env).map (·.2) := by rfl) : QGWs X pn ws (t :: ts) (gsCons b bs) :=
  (pgs_cons h1 h2 hs).weak fun xs σ H Q ⟨A, F, N, ρ, ds, ρ', r, dv, hb, k⟩ => by
    unfold gsCons at hb
    split at hb
    · obtain ⟨ρ1, e1, e2⟩ := bindS hb
      cases dv with
      | cons d1 t =>
        exact ⟨_, _, rfl, A, F, N, ρ, _, ρ1, r, d1, e1, fun σ1 r1 w1 => ⟨A, F, N, ρ1, _, ρ', r1, t, e2, fun σ2 r2 w2 => k σ2 r2 (w2.trans w1)⟩⟩
    · cases hb
theorem gw_tup {ws : List Nat} {ts : List Expr} {j : Nat} {bs : List Dt → En → Option En} {n : Nat} (hc : X.calm = true) (h : QGWs X pn ws ts bs) (hb : ∀ ds ρ ρ', bs ds ρ = some ρ' → ds.length = n) (hn : (assignEach ts X.env).length = n := by rfl) (hst : (assignEach ts X.env).findIdx? (·.1) = none := by rfl) : QGW X pn ws (.Tuple ts j pos) (gT bs) :=
  (pg_tup hc h hn hst).weak fun v σ H Q ⟨A, F, N, ρ, d, ρ', r, dv, hb', k⟩ => by
    unfold gT at hb'
    split at hb'
    · cases dv with
      | tup h t => exact ⟨_, _, rfl, Same.sqt r.sF h, by rw [t.length]; exact hb _ _ _ hb', A, F, N, ρ, _, ρ', r, t, hb', k⟩
    · cases hb'
/-- a binding changes nothing but ws -/
def KeepB (b : Dt → En → Option En) (ws : List Nat) : Prop := ∀ d ρ ρ', b d ρ = some ρ' → wipeE ρ' ws = wipeE ρ ws
def KeepBs (b : List Dt → En → Option En) (ws : List Nat) : Prop := ∀ d ρ ρ', b d ρ = some ρ' → wipeE ρ' ws = wipeE ρ ws
theorem wipeE_set {ρ : En} {i : Nat} {x : Option Et} : ∀ {ws : List Nat}, i ∈ ws → wipeE (ρ.set i x) ws = wipeE ρ ws
  | w :: ws, h => by
    unfold wipeE
    by_cases hi : i ∈ ws
    · rw [wipeE_set hi]
    · have e : w = i := (List.mem_cons.mp h).elim Eq.symm fun z => absurd z hi
      subst e
      have gen : ∀ us : List Nat, w ∉ us → wipeE (ρ.set w x) us = (wipeE ρ us).set w x := by
        intro us
        induction us with
        | nil => intro _; rfl
        | cons u us ih =>
          intro hu
          simp only [List.mem_cons, not_or] at hu
          unfold wipeE
          rw [ih hu.2, List.set_comm _ _ hu.1]
      rw [gen ws hi, List.set_set]
theorem kb_n {i : Nat} {ws : List Nat} (h : i ∈ ws := by decide) : KeepB (bN i) ws := fun d ρ ρ' e => by
  unfold bN at e
  split at e
  · cases e
    exact wipeE_set h
  · cases e
theorem kb_nil {ws : List Nat} : KeepBs gsNil ws := fun d ρ ρ' e => by
  unfold gsNil at e
  split at e
  · cases e; rfl
  · cases e
theorem kb_cons {ws : List Nat} {b : Dt → En → Option En} {bs : List Dt → En → Option En} (h : KeepB b ws) (t : KeepBs bs ws) : KeepBs (gsCons b bs) ws := fun d ρ ρ' e => by
  unfold gsCons at e
  split at e
  · obtain ⟨ρ1, e1, e2⟩ := bindS e
    exact (t _ _ _ e2).trans (h _ _ _ e1)
  · cases e
theorem kb_t {ws : List Nat} {bs : List Dt → En → Option En} (t : KeepBs bs ws) : KeepB (gT bs) ws := fun d ρ ρ' e => by
  unfold gT at e
  split at e
  · exact t _ _ _ e
  · cases e
theorem wipeE_wipeE (ρ : En) : ∀ ws : List Nat, wipeE (wipeE ρ ws) ws = wipeE ρ ws
  | [] => rfl
  | w :: ws => by
    show wipeE ((wipeE ρ ws).set w none) (w :: ws) = _
    rw [wipeE_set List.mem_cons_self]
    show (wipeE (wipeE ρ ws) ws).set w none = _
    rw [wipeE_wipeE ρ ws]
    rfl
def cLe (b : Dt → En → Option En) (t : En → Option Bool) (e : En → Option Et) (ρ : En) : List Dt → Option (List Et)
  | [] => some []
  | d :: ds => (b d ρ).bind fun ρ1 => (t ρ1).bind fun c => if c = true then (e ρ1).bind fun x => (cLe b t e ρ ds).bind fun xs => some (x :: xs) else cLe b t e ρ ds
def eLc (it : En → Option (List Dt)) (b : Dt → En → Option En) (t : En → Option Bool) (e : En → Option Et) (ws : List Nat) : En → Option Et := fun ρ => (it (leafE ρ)).bind fun ds => if okW ρ ws = true ∧ ws.all (· < ρ.length) = true then (cLe b t e (wipeE ρ ws) ds).bind fun xs => if xs.length ≤ sizeLine then some (.lst xs) else none else none
theorem elc_core {b : Dt → En → Option En} {t : En → Option Bool} {e : En → Option Et} {ws : List Nat} {A F N F1 N1 G1 H H1 : Hp} {J : It} {ds : List Dt} {xs : List Et} {ρ : En} {σ : L2.St} {Q : VK} (hw : KeepB b ws) (hp : ∀ i ∈ ws, NoPin pn i) (r : Rp K A F N H pn σ ρ [] []) (hok : okW ρ ws = true) (hlt : ws.all (· < ρ.length) = true) (hxs : cLe b t e (wipeE ρ ws) ds = some xs) (hlen : xs.length ≤ sizeLine)
    (k : ∀ v H' F' N', Same H H' → Stp F N F' N' → Rp K A F' N' H' pn σ ρ [v] [.lst xs] → Q v H') (hH : Same H H1) (st1 : Stp F N F1 N1) (r1 : Rp K A F1 N1 H1 pn σ ρ [] []) (s1 : Same G1 F1) (wk : Wk K J G1 ds) (D : Addr) (hD : H1 D = none) :
    ∃ W : Nat → Nat → Hp → Prop, (∃ m, W 0 m (upd H1 D (.lst []))) ∧ ∀ i m H, W i m H →
      (J.stop i H ∧ Q (.ref D) H) ∨ (J.go i H ∧ ∃ Nx : Hp → Prop, (∀ H', Nx H' → ∃ m', m' < m ∧ W (i + 1) m' H') ∧ ∀ x H', J.yld i H x H' → tGW K pn ws b x (L2.wipe σ ws) H' fun σ2 H2 => L2.wipe σ2 ws = L2.wipe σ ws ∧ tB K t σ2 H2 fun b H3 =>
        if b = true then tE K pn e σ2 H3 fun y H4 => ∃ acc, H4 D = some (.lst acc) ∧ acc.length < sizeLine ∧ Nx (upd H4 D (.lst (acc ++ [y]))) else Nx H3) := by
      have rw1 : Rp K A F1 N1 H1 pn (L2.wipe σ ws) (wipeE ρ ws) [] [] := r1.wipe (fun i hi => by have := List.all_eq_true.mp hlt i hi; simpa using this) hp
      have dH1 : ∀ o, del D (upd H1 D o) = H1 := fun o => by
        rw [del_upd]
        funext a
        unfold del
        split
        · rename_i h; rw [h, hD]
        · rfl
      let St : Nat → Hp → Prop := fun i H => ∃ acc es1 es2 F2 N2, H D = some (.lst acc) ∧ Stp F1 N1 F2 N2 ∧ Rp K A F2 N2 (del D H) pn (L2.wipe σ ws) (wipeE ρ ws) acc es1 ∧ Same H1 H ∧ cLe b t e (wipeE ρ ws) (ds.drop i) = some es2 ∧ es1 ++ es2 = xs
      refine ⟨fun i m H => m = ds.length - i ∧ i ≤ ds.length ∧ St i H, ⟨ds.length, by simp, Nat.zero_le _, [], [], xs, F1, N1, upd_same, Stp.refl, by rw [dH1]; exact rw1, fun a o h => by rw [upd_ne (ne_of_none h hD)]; exact h, by simpa using hxs, rfl⟩, ?_⟩
      rintro i m H2 ⟨rfl, hi, acc, es1, es2, F2, N2, hDH, st2, r2, sH1, hL, hx⟩
      have sG : Same G1 H2 := fun a o h => by
        have := r2.sF a o (st2.sF a o (s1 a o h))
        unfold del at this
        split at this
        · cases this
        · exact this
      by_cases hlt2 : i < ds.length
      · refine .inr ⟨(wk.go i H2 sG hlt2).1, fun H' => St (i + 1) H', fun H' p => ⟨ds.length - (i + 1), by omega, rfl, hlt2, p⟩, fun x H3 y => ?_⟩
        obtain ⟨sHH, d, U, hd, sU, sUH, nU, dx⟩ := (wk.go i H2 sG hlt2).2 x H3 y
        have ed : d = ds[i] := by
          rw [List.getElem?_eq_getElem hlt2] at hd
          exact (Option.some.inj hd).symm
        rw [List.drop_eq_getElem_cons hlt2, ← ed] at hL
        unfold cLe at hL
        obtain ⟨ρ1, hb, hL⟩ := bindS hL
        obtain ⟨c, hc, hL⟩ := bindS hL
        obtain ⟨A1, r3, sA1, back1⟩ := r2.hide
        obtain ⟨r4, back2⟩ := r3.alien hDH
        obtain ⟨F3, N3, st3, r5, s5⟩ := r4.take sHH sUH fun a o h => (nU a o h).imp (fun h => st2.sF a o (s1 a o h)) id
        refine ⟨_, F3, N3, wipeE ρ ws, d, ρ1, r5, dx.mono s5, hb, fun σ2 r6 w2 => ⟨w2.trans (wipe_wipe σ ws), H3, ρ1, c, r6.rv, hc, fun H4 Z4 g4 => ?_⟩⟩
        have hw1 : wipeE ρ1 ws = wipeE ρ ws := (hw _ _ _ hb).trans (wipeE_wipeE ρ ws)
        have hl1 : ∀ i ∈ ws, i < ρ1.length := fun i hi => by
          have := congrArg List.length hw1
          rw [wipeE_length, wipeE_length] at this
          rw [this]
          have := List.all_eq_true.mp hlt i hi
          simpa using this
        cases c with
        | false =>
          simp only [Bool.false_eq_true, if_false] at hL ⊢
          have r7 := (r6.mono g4.h).wipe hl1 hp
          rw [hw1, w2, wipe_wipe] at r7
          obtain ⟨r8, d8⟩ := back2 _ _ _ _ _ _ _ st3 r7
          have r9 := back1 _ _ _ _ _ _ _ st3 r8
          rw [List.append_nil, List.append_nil] at r9
          exact ⟨acc, es1, es2, F3, N3, d8, st2.trans st3, r9, (sH1.trans sHH).trans g4.h, hL, hx⟩
        | true =>
          simp only [if_true] at hL ⊢
          obtain ⟨y, hy, hL⟩ := bindS hL
          obtain ⟨ys, hys, hL⟩ := bindS hL
          cases hL
          refine ⟨_, F3, N3, ρ1, y, r6.mono g4.h, hy, fun v H5 F5 N5 s45 st5 r7 => ?_⟩
          have r7 := r7.wipe hl1 hp
          rw [hw1, w2, wipe_wipe] at r7
          obtain ⟨r8, d8⟩ := back2 _ _ _ _ _ _ _ (st3.trans st5) r7
          have r9 := back1 _ _ _ _ _ _ _ (st3.trans st5) r8
          have l1 : acc.length < sizeLine := by
            have h1 := r2.len
            rw [← hx] at hlen
            simp only [List.length_append, List.length_cons] at hlen
            omega
          refine ⟨acc, d8, l1, acc ++ [v], es1 ++ [y], ys, F5, N5, upd_same, (st2.trans st3).trans st5, by rw [del_upd]; exact r9, fun a o h => ?_, hys, by rw [List.append_assoc]; exact hx⟩
          rw [upd_ne (ne_of_none h hD)]
          exact s45 a o (g4.h a o (sHH a o (sH1 a o h)))
      · have ei : i = ds.length := by omega
        subst ei
        rw [List.drop_length] at hL
        cases hL
        rw [List.append_nil] at hx
        subst hx
        have up : upd (del D H2) D (.lst acc) = H2 := by
          funext a
          by_cases ha : a = D
          · subst ha
            rw [upd_same, hDH]
          · rw [upd_ne ha, del_ne ha]
        have r3 := r2.alloc (p := D) (ob := .lst acc) (e := .lst es1) del_at fun gp h => .lst upd_same h
        rw [up] at r3
        refine .inl ⟨wk.stop _ H2 sG (Nat.le_refl _), k _ _ _ _ (hH.trans sH1) (st1.trans st2) (r.unwipe hok (st1.trans st2) r3)⟩
theorem elc_rd {it : En → Option (List Dt)} {b : Dt → En → Option En} {t : En → Option Bool} {e : En → Option Et} {ws : List Nat} (hw : KeepB b ws) (hp : ∀ i ∈ ws, NoPin pn i) (σ : L2.St) (H : Hp) (Q : VK) (q : tE K pn (eLc it b t e ws) σ H Q) : tLc (tI K it) (tGW K pn ws b) (tB K t) (tE K pn e) ws σ H Q := by
  obtain ⟨A, F, N, ρ, e0, r, hf, k⟩ := q
  obtain ⟨ds, hds, hf⟩ := bindS hf
  split at hf
  · rename_i hok
    obtain ⟨hok, hlt⟩ := hok
    obtain ⟨xs, hxs, hf⟩ := bindS hf
    split at hf
    · rename_i hlen
      have e1 := Option.some.inj hf
      subst e1
      refine ⟨F, leafE ρ, ds, r.leaves, hds, fun J H1 Z1 g1 wk D hD => ?_⟩
      obtain ⟨F1, N1, st1, r1, s1⟩ := r.take g1.h g1.s g1.n
      exact elc_core hw hp r hok hlt hxs hlen k g1.h st1 r1 s1 wk D hD
    · cases hf
  · cases hf
/-- over a range: the owned names may be read -/
def eLcR (it : En → Option (List Dt)) (b : Dt → En → Option En) (t : En → Option Bool) (e : En → Option Et) (ws : List Nat) : En → Option Et := fun ρ => (it ρ).bind fun ds => if okW ρ ws = true ∧ ws.all (· < ρ.length) = true then (cLe b t e (wipeE ρ ws) ds).bind fun xs => if xs.length ≤ sizeLine then some (.lst xs) else none else none
theorem elcR_rd {it : En → Option (List Dt)} {b : Dt → En → Option En} {t : En → Option Bool} {e : En → Option Et} {ws : List Nat} (hw : KeepB b ws) (hp : ∀ i ∈ ws, NoPin pn i) (σ : L2.St) (H : Hp) (Q : VK) (q : tE K pn (eLcR it b t e ws) σ H Q) : tLc (tIr K it) (tGW K pn ws b) (tB K t) (tE K pn e) ws σ H Q := by
  obtain ⟨A, F, N, ρ, e0, r, hf, k⟩ := q
  obtain ⟨ds, hds, hf⟩ := bindS hf
  split at hf
  · rename_i hok
    obtain ⟨hok, hlt⟩ := hok
    obtain ⟨xs, hxs, hf⟩ := bindS hf
    split at hf
    · rename_i hlen
      have e1 := Option.some.inj hf
      subst e1
      exact ⟨H, ρ, ds, r.rv, hds, fun J H1 Z1 g1 wk _ D hD => elc_core hw hp r hok hlt hxs hlen k g1.h Stp.refl (r.mono g1.h) same_none (wk none_) D hD⟩
    · cases hf
  · cases hf
theorem e_lcR {tg iter e : Expr} {ifs : List Expr} {scope : Scope} {own : List (Str × Nat)} {it : En → Option (List Dt)} {b : Dt → En → Option En} {t : En → Option Bool} {f : En → Option Et} (hc : X.calm = true) (hN : X.N.Nodup) (hi : QR X tg iter it) (ok : BlkOk X.N X.env.scope scope own)
    (hg : ∀ (s : Shared) (H : Hp) (C : Addr) (cl : List (Str × Addr)) (fp : List Addr), QGW (X.blk s H scope (compEnvC scope cl C X.env) fp) pn (own.map (·.2)) tg b) (ht : ∀ (s : Shared) (H : Hp) (C : Addr) (cl : List (Str × Addr)) (fp : List Addr), QBs (X.blk s H scope (compEnvC scope cl C X.env) fp) ifs t)
    (he : ∀ (s : Shared) (H : Hp) (C : Addr) (cl : List (Str × Addr)) (fp : List Addr), QE (X.blk s H scope (compEnvC scope cl C X.env) fp) pn e f) (hw : KeepB b (own.map (·.2))) (hp : ∀ i ∈ own.map (·.2), NoPin pn i) (hs : ∀ x, foldedSetIterable iter X.env x = pure x := by intro _; rfl) :
    QE X pn (.ListComp e [⟨tg, iter, ifs, 0⟩] scope pos) (eLcR it b t f (own.map (·.2))) := (pe_lc hc hN hi ok hg ht he hs).weak (elcR_rd hw hp)
theorem e_lc {tg iter e : Expr} {ifs : List Expr} {scope : Scope} {own : List (Str × Nat)} {it : En → Option (List Dt)} {b : Dt → En → Option En} {t : En → Option Bool} {f : En → Option Et} (hc : X.calm = true) (hN : X.N.Nodup) (hi : QI X tg iter it) (ok : BlkOk X.N X.env.scope scope own)
    (hg : ∀ (s : Shared) (H : Hp) (C : Addr) (cl : List (Str × Addr)) (fp : List Addr), QGW (X.blk s H scope (compEnvC scope cl C X.env) fp) pn (own.map (·.2)) tg b) (ht : ∀ (s : Shared) (H : Hp) (C : Addr) (cl : List (Str × Addr)) (fp : List Addr), QBs (X.blk s H scope (compEnvC scope cl C X.env) fp) ifs t)
    (he : ∀ (s : Shared) (H : Hp) (C : Addr) (cl : List (Str × Addr)) (fp : List Addr), QE (X.blk s H scope (compEnvC scope cl C X.env) fp) pn e f) (hw : KeepB b (own.map (·.2))) (hp : ∀ i ∈ own.map (·.2), NoPin pn i) (hs : ∀ x, foldedSetIterable iter X.env x = pure x := by intro _; rfl) :
    QE X pn (.ListComp e [⟨tg, iter, ifs, 0⟩] scope pos) (eLc it b t f (own.map (·.2))) := (pe_lc hc hN hi ok hg ht he hs).weak (elc_rd hw hp)
end Qs
namespace Qs
open PySem PySem.Spec PyProof.Rows L2
variable [CTab]
variable {K : PySem.W.Frag} {A F N H F' N' H' : Hp} {pn : List (Nat × V)} {σ : L2.St} {ρ : En} {vs : List V} {es : List Et} {X : Cx} {W : WX} {a b e : Expr} {pos p2 : Pos}
/-! ### a + b of lists, b a value that may change things -/
def elE : Et → Option (List Et)
  | .fl ds => some (ds.map .n)
  | .lst es => some es
  | .n (.lst ds) => some (ds.map .n)
  | .o (.lst ds) => some (ds.map lf)
  | _ => none
theorem owns_n {vs : List V} {ds : List Dt} (t : Dats K N vs ds) : Owns K F N H vs (ds.map .n) [] := by
  induction ds generalizing vs with
  | nil => cases t; exact .nil
  | cons d ds ih =>
    cases t with
    | cons h t => exact .cons (fp := []) (.n h) (ih t)
theorem owns_lf {vs : List V} {ds : List Dt} (t : Dats K F vs ds) : Owns K F N H vs (ds.map lf) [] := by
  induction ds generalizing vs with
  | nil => cases t; exact .nil
  | cons d ds ih =>
    cases t with
    | cons h t => exact .cons (fp := []) (lf_own h) (ih t)
theorem own_els {v : V} {e : Et} {gs : List Et} {fp : List Addr} (o : Own K F N H v e fp) (h : elE e = some gs) (sF : Same F H) (sN : Same N H) : ∃ l xs fq, v = .ref l ∧ H l = some (.lst xs) ∧ Owns K F N H xs gs fq ∧ fq.Sublist fp := by
  cases o with
  | n d =>
    cases d with
    | lst h1 t =>
      cases h
      exact ⟨_, _, [], rfl, sN _ _ h1, owns_n t, List.nil_sublist _⟩
    | _ => cases h
  | o d =>
    cases d with
    | lst h1 t =>
      cases h
      exact ⟨_, _, [], rfl, sF _ _ h1, owns_lf t, List.nil_sublist _⟩
    | _ => cases h
  | fl h1 t =>
    cases h
    exact ⟨_, _, [], rfl, h1, owns_n t, List.nil_sublist _⟩
  | lst h1 t =>
    cases h
    exact ⟨_, _, _, rfl, h1, t, List.sublist_cons_self _ _⟩
  | _ => cases h
theorem Rp.swap {ws : List V} {gs : List Et} (r : Rp K A F N H pn σ ρ vs es) (h : ∀ gp, Owns K F N H vs es gp → ∃ gq, Owns K F N H ws gs gq ∧ gq.Sublist gp) : Rp K A F N H pn σ ρ ws gs := by
  obtain ⟨fp, gp, h1, h2, h3, h4⟩ := r.own
  obtain ⟨gq, k2, sl⟩ := h gp h2
  exact ⟨⟨fp, gq, h1, k2, h3.sublist (List.Sublist.append (List.Sublist.refl _) sl), fun a ha => h4 a (by
    rcases List.mem_append.mp ha with z | z
    · exact List.mem_append_left _ z
    · exact List.mem_append_right _ (sl.subset z))⟩, r.sA, r.sN, r.nA, r.nF, r.fA, r.pin⟩
def catE (x y : Et) : Option Et := (elE x).bind fun xs => (elE y).bind fun ys => if xs.length + ys.length ≤ sizeLine then some (.lst (xs ++ ys)) else none
def mCat (f g : Mm) : Mm := fun ρ => (f ρ).bind fun z => match z with
  | .ok x ρ1 => (g ρ1).bind fun u => match u with
    | .ok y ρ2 => (catE x y).map fun w => .ok w ρ2
    | .ex C i ρ2 => some (.ex C i ρ2)
  | .ex C i ρ1 => some (.ex C i ρ1)
theorem m_cat {f g : Mm} (ha : QM X pn W a f) (hb : QM X pn W b g) : QM X pn W (.BinOp a .Add b pos) (mCat f g) :=
  (pe_op op_cat ha hb).weak fun σ H Q ⟨A, F, N, ρ, z, r, hf, k⟩ => by
    obtain ⟨z1, h1, hf⟩ := bindS hf
    refine ⟨A, F, N, ρ, z1, r, h1, fun F1 N1 H1 st1 => ?_⟩
    cases z1 with
    | ex C i ρ1 =>
      cases hf
      exact k F1 N1 H1 st1
    | ok x ρ1 =>
      intro v r1
      obtain ⟨u, h2, hf⟩ := bindS hf
      obtain ⟨A1, r2, sA, back⟩ := r1.hide
      refine ⟨A1, F1, N1, ρ1, u, r2, h2, fun F2 N2 H2 st2 => ?_⟩
      cases u with
      | ex C i ρ2 =>
        cases hf
        intro d r3 xd
        have r4 := back _ _ _ _ _ _ _ st2 r3
        exact k F2 N2 H2 (st1.trans st2) d r4.drop xd
      | ok y ρ2 =>
        intro w r3
        obtain ⟨ww, hw, hz⟩ := mapS hf
        subst hz
        obtain ⟨xs, hx, hw⟩ := bindS hw
        obtain ⟨ys, hy, hw⟩ := bindS hw
        split at hw
        · rename_i hl
          cases hw
          have r4 := back _ _ _ _ _ _ _ st2 r3
          obtain ⟨fp, gp, q1, q2, q3, q4⟩ := r4.own
          have both : ∀ gp, Owns X.K F2 N2 H2 ([v] ++ [w]) ([x] ++ [y]) gp → ∃ l m us ts gq, v = .ref l ∧ w = .ref m ∧ H2 l = some (.lst us) ∧ H2 m = some (.lst ts) ∧ us.length = xs.length ∧ ts.length = ys.length ∧ Owns X.K F2 N2 H2 (us ++ ts) (xs ++ ys) gq ∧ gq.Sublist gp := fun gp o => by
            cases o with
            | cons o1 t =>
              cases t with
              | cons o2 t =>
                cases t
                obtain ⟨l, us, f1, e1, l1, w1, s1⟩ := own_els o1 hx r4.sF r4.sN
                obtain ⟨m, ts, f2, e2, l2, w2, s2⟩ := own_els o2 hy r4.sF r4.sN
                exact ⟨l, m, us, ts, f1 ++ f2, e1, e2, l1, l2, w1.length, w2.length, w1.append w2, s1.append (by rw [List.append_nil]; exact s2)⟩
          obtain ⟨l, m, us, ts, gq, rfl, rfl, l1, l2, n1, n2, _, _⟩ := both gp q2
          have r5 : Rp X.K A F2 N2 H2 pn σ ρ2 (us ++ ts) (xs ++ ys) := r4.swap fun gp o => by
            obtain ⟨l', m', us', ts', gq, e1, e2, k1, k2, _, _, o', sl⟩ := both gp o
            cases e1
            cases e2
            rw [l1] at k1
            rw [l2] at k2
            cases k1
            cases k2
            exact ⟨gq, o', sl⟩
          refine ⟨l, m, us, ts, rfl, rfl, l1, l2, by rw [n1, n2]; exact hl, fun p np => ?_⟩
          exact k F2 N2 _ (st1.trans st2) _ (r5.alloc np fun gp o => .lst upd_same o)
        · cases hw
/-! name = [.. for ..] on one line, of owned things -/
theorem s_setLcE {i : Nat} {y : Str} {py spos : Pos} {tg iter e : Expr} {ifs : List Expr} {scope : Scope} {own : List (Str × Nat)} {it : En → Option (List Dt)} {b : Dt → En → Option En} {t : En → Option Bool} {f : En → Option Et} (hc : X.calm = true) (hN : X.N.Nodup) (hi : QI X tg iter it) (ok : BlkOk X.N X.env.scope scope own)
    (hg : ∀ (s : Shared) (H : Hp) (C : Addr) (cl : List (Str × Addr)) (fp : List Addr), QGW (X.blk s H scope (compEnvC scope cl C X.env) fp) pn (own.map (·.2)) tg b) (ht : ∀ (s : Shared) (H : Hp) (C : Addr) (cl : List (Str × Addr)) (fp : List Addr), QBs (X.blk s H scope (compEnvC scope cl C X.env) fp) ifs t)
    (he : ∀ (s : Shared) (H : Hp) (C : Addr) (cl : List (Str × Addr)) (fp : List Addr), QE (X.blk s H scope (compEnvC scope cl C X.env) fp) pn e f) (hw : KeepB b (own.map (·.2))) (hps : ∀ i ∈ own.map (·.2), NoPin pn i)
    (hsw : swapsWith (.ListComp e [⟨tg, iter, ifs, 0⟩] scope pos) (some (.Name y py)) spos.line X.env = pure true) (hp : NoPin pn i := by intro p h; simp at h) (hy : X.N[i]? = some y := by rfl) (hyl : X.env.scope.names.lookup y = some .local := by rfl) (hs : ∀ x, foldedSetIterable iter X.env x = pure x := by intro _; rfl) :
    QS X pn W (.Assign [.Name y py] (.ListComp e [⟨tg, iter, ifs, 0⟩] scope pos) spos) (sSet i (mE (eLc it b t f (own.map (·.2))))) := (ps_setLc hc hN hy hyl hsw hi ok hg ht he hs).weak fun D σ H ⟨A, F, N, ρ, o, r, hf, p⟩ => by
  obtain ⟨z, hz, hf⟩ := bindS hf
  obtain ⟨e', he', rfl⟩ := mapS hz
  have hf' : (if i < ρ.length then some (Out.nx (ρ.set i (some e'))) else none) = some o := hf
  split at hf'
  · rename_i hl
    cases hf'
    exact elc_rd hw hps σ H (fun x H1 => gName i x σ H1 D.nx) ⟨A, F, N, ρ, e', r, he', fun v H' F' N' s st r' => p F' N' H' _ st (r'.store hl hp)⟩
  · cases hf'
theorem s_setLcR {i : Nat} {y : Str} {py spos : Pos} {tg iter e : Expr} {ifs : List Expr} {scope : Scope} {own : List (Str × Nat)} {it : En → Option (List Dt)} {b : Dt → En → Option En} {t : En → Option Bool} {f : En → Option Et} (hc : X.calm = true) (hN : X.N.Nodup) (hi : QR X tg iter it) (ok : BlkOk X.N X.env.scope scope own)
    (hg : ∀ (s : Shared) (H : Hp) (C : Addr) (cl : List (Str × Addr)) (fp : List Addr), QGW (X.blk s H scope (compEnvC scope cl C X.env) fp) pn (own.map (·.2)) tg b) (ht : ∀ (s : Shared) (H : Hp) (C : Addr) (cl : List (Str × Addr)) (fp : List Addr), QBs (X.blk s H scope (compEnvC scope cl C X.env) fp) ifs t)
    (he : ∀ (s : Shared) (H : Hp) (C : Addr) (cl : List (Str × Addr)) (fp : List Addr), QE (X.blk s H scope (compEnvC scope cl C X.env) fp) pn e f) (hw : KeepB b (own.map (·.2))) (hps : ∀ i ∈ own.map (·.2), NoPin pn i)
    (hsw : swapsWith (.ListComp e [⟨tg, iter, ifs, 0⟩] scope pos) (some (.Name y py)) spos.line X.env = pure true) (hp : NoPin pn i := by intro p h; simp at h) (hy : X.N[i]? = some y := by rfl) (hyl : X.env.scope.names.lookup y = some .local := by rfl) (hs : ∀ x, foldedSetIterable iter X.env x = pure x := by intro _; rfl) :
    QS X pn W (.Assign [.Name y py] (.ListComp e [⟨tg, iter, ifs, 0⟩] scope pos) spos) (sSet i (mE (eLcR it b t f (own.map (·.2))))) := (ps_setLc hc hN hy hyl hsw hi ok hg ht he hs).weak fun D σ H ⟨A, F, N, ρ, o, r, hf, p⟩ => by
  obtain ⟨z, hz, hf⟩ := bindS hf
  obtain ⟨e', he', rfl⟩ := mapS hz
  have hf' : (if i < ρ.length then some (Out.nx (ρ.set i (some e'))) else none) = some o := hf
  split at hf'
  · rename_i hl
    cases hf'
    exact elcR_rd hw hps σ H (fun x H1 => gName i x σ H1 D.nx) ⟨A, F, N, ρ, e', r, he', fun v H' F' N' s st r' => p F' N' H' _ st (r'.store hl hp)⟩
  · cases hf'
/-- a field that is a leaf, or a scalar -/
theorem wp_catE {x y : Et} {xs ys : List Et} (hx : elE x = some xs) (hy : elE y = some ys) (hl : xs.length + ys.length ≤ sizeLine) : catE x y = some (.lst (xs ++ ys)) := by
  unfold catE
  rw [hx, hy, Option.bind_some, Option.bind_some, if_pos hl]
end Qs
namespace T32
open PySem PySem.Spec PyProof.Rows L2 Qs
def top (i : Nat) : Stmt := PySem.Challenge.pw_farhaul_k32_whole_frames_are_found.main.body.getD i (.Pass ⟨0, 0, 0, 0⟩)
structure Bi (mg : Str → Option Value) : Prop where
  g_abs : mg "abs" = none
  g_int : mg "int" = none
  g_len : mg "len" = none
  g_list : mg "list" = none
  g_min : mg "min" = none
  g_range : mg "range" = none
  g_sum : mg "sum" = none
  g_zip : mg "zip" = none
  e_MOST_BITS : ∃ t, mg "MOST_BITS" = some (.int 32 t)
structure Ri [CTab] (K : PySem.W.Frag) : Prop where
  f_Finder__held : FldR K 0 3 "_held"
  f_Finder__mark : FldR K 0 0 "_mark"
  f_Finder__place : FldR K 0 4 "_place"
  f_Finder__size : FldR K 0 2 "_size"
  f_Finder__tolerance : FldR K 0 1 "_tolerance"
  f_Finder__within : FldR K 0 5 "_within"
variable [CTab]
abbrev st_distance : Stmt := top 6
abbrev N_distance : List Str := ["one", "two", "k"]
def c_distance : Sm := (sSeq (sIf (bP (pO sNe (pN nLen (aCons (pV 0) aNil)) (pN nLen (aCons (pV 1) aNil)))) sNo sNil)
    (sRet (mE (eP (pN nLen (aCons (pF (fLc (iN rg1 (aCons (pN nLen (aCons (pV 0) aNil)) aNil)) (gN 2) (bP (pO sNe (pO ixD (pV 0) (pV 2)) (pO ixD (pV 1) (pV 2)))) (pV 2) [2])) aNil))))))
def sem_distance : Fn := fnSem [false, false] 3 c_distance
abbrev st_check_mark : Stmt := top 7
abbrev N_check_mark : List Str := ["mark"]
def c_check_mark : Sm := (sIf (bNot (bP (pCh sLe sLe (pC (.int 1)) (pN nLen (aCons (pV 0) aNil)) (pC (.int 32))))) sNo sNil)
def sem_check_mark : Fn := fnSem [false] 1 c_check_mark
abbrev st_before_mark : Stmt := top 8
abbrev N_before_mark : List Str := ["mark", "j"]
def c_before_mark : Sm := (sRet (mE (eAddA (pO sMulA (pLst (aCons (pC (.int 0)) aNil)) (pV 1)) (pF (fList (aCons (pF (fSl (pV 0) none (some (pO sSub (pN nLen (aCons (pV 0) aNil)) (pV 1))))) aNil))))))
def sem_before_mark : Fn := fnSem [false, false] 2 c_before_mark
abbrev st_Finder__whole : Stmt := inClass (top 12) 3
abbrev N_Finder__whole : List Str := ["self", "at", "start"]
def c_Finder__whole : Sm := (sSeq (sSet 2 (mE (eAddA (pV 1) (pN nLen (aCons (pFld 0 0 (pV 0)) aNil)))))
    (sSeq (sIf (bOr (bNot (bP (pFld 0 5 (pV 0)))) (bP (pO sGt (pO sAddA (pV 2) (pFld 0 2 (pV 0))) (pN nLen (aCons (pFld 0 3 (pV 0)) aNil))))) (sRet (mE (eP (pC .non)))) sNil)
    (sRet (mE (eF (fSl (pFld 0 3 (pV 0)) (some (pV 2)) (some (pO sAddA (pV 2) (pFld 0 2 (pV 0))))))))))
def sem_Finder__whole : Fn := fnSem [false, false] 3 c_Finder__whole
abbrev st_law_draws : Stmt := top 14
abbrev N_law_draws : List Str := ["_law_script", "_law_draws_here", "_law_k", "_law_rest", "_law_turn", "_law_mixed"]
def c_law_draws : Sm := (sSeq (sSet 1 (mE (eF (fLst aNil))))
    (sSeq (sFor (iN rg1 (aCons (pN nMin2 (aCons (pC (.int 63)) (aCons (pN nLen (aCons (pV 0) aNil)) aNil))) aNil)) (bN 2) (sSeq (sSet 3 (mE (eP (pN nAbs (aCons (pO ixD (pV 0) (pV 2)) aNil)))))
    (sIf (bP (pO sGe (pV 3) (pO sPow (pC (.int 10)) (pC (.int 18))))) (sFor (iN rg1 (aCons (pC (.int 60)) aNil)) (bN 4) (sIf (bP (pO sGt (pV 3) (pC (.int 0)))) (sSeq (sApp (.s 1) (eP (pO sMod (pN nInt (aCons (pV 3) aNil)) (pC (.int 65536)))))
    (sSet 3 (mE (eP (pO sDiv (pV 3) (pC (.int 65536))))))) sNil)) (sSeq (sSet 5 (mE (eP (pO sMod (pN nInt (aCons (pO sAddA (pO sMulA (pV 3) (pC (.int 48271))) (pO sMulA (pO sAddA (pV 2) (pC (.int 1))) (pC (.int 69621)))) aNil)) (pC (.int 2147483647))))))
    (sSeq (sSet 5 (mE (eP (pO sMod (pN nInt (aCons (pO sAddA (pO sAddA (pO sMulA (pV 5) (pC (.int 16807))) (pO sMulA (pC (.int 11)) (pV 2))) (pC (.int 5))) aNil)) (pC (.int 2147483629))))))
    (sSeq (sApp (.s 1) (eP (pO sMod (pN nInt (aCons (pV 5) aNil)) (pC (.int 65536)))))
    (sApp (.s 1) (eP (pO sMod (pN nInt (aCons (pO sDiv (pV 5) (pC (.int 65536))) aNil)) (pC (.int 32768)))))))))))
    (sRet (mMv 1))))
def sem_law_draws : Fn := fnSem [false] 6 c_law_draws
abbrev st_law_mix : Stmt := top 15
abbrev N_law_mix : List Str := ["_law_draws_here", "_law_k", "_law_many", "_law_value"]
def c_law_mix : Sm := (sSeq (sSet 3 (mE (eP (pC (.int 0)))))
    (sSeq (sIf (bP (pO sGt (pN nLen (aCons (pV 0) aNil)) (pC (.int 0)))) (sSet 3 (mE (eP (pO ixD (pV 0) (pO sMod (pN nInt (aCons (pV 1) aNil)) (pN nLen (aCons (pV 0) aNil))))))) sNil)
    (sSeq (sIf (bP (pO sLt (pV 1) (pN nLen (aCons (pV 0) aNil)))) (sRet (mE (eP (pO sMod (pN nInt (aCons (pV 3) aNil)) (pV 2))))) sNil)
    (sRet (mE (eP (pO sMod (pN nInt (aCons (pO sDiv (pN nInt (aCons (pO sAddA (pO sMulA (pV 3) (pC (.int 7919))) (pO sMulA (pV 1) (pC (.int 104729)))) aNil)) (pC (.int 3))) aNil)) (pV 2))))))))
def sem_law_mix : Fn := fnSem [false, false, false] 4 c_law_mix
abbrev st_guard : Stmt := top 9
abbrev N_guard : List Str := ["mark", "j"]
def c_guard : Sm := (sSeq (sDrop (mE (eN (cE sem_check_mark) (aCons (pV 0) aNil))))
    (sRet (mE (eP (pN nMin (aCons (pF (fLc (iN rg2 (aCons (pC (.int 1)) (aCons (pO sAddA (pN nLen (aCons (pV 0) aNil)) (pC (.int 1))) aNil))) (gN 1) bYes (pN (cP sem_distance) (aCons (pV 0) (aCons (pN (cP sem_before_mark) (aCons (pV 0) (aCons (pV 1) aNil))) aNil))) [1])) aNil))))))
def sem_guard : Fn := fnSem [false] 2 c_guard
abbrev st_line_of : Stmt := top 11
abbrev N_line_of : List Str := ["mark", "payloads", "idles", "line", "payload", "idle"]
def c_line_of : Sm := (sSeq (sDrop (mE (eN (cE sem_check_mark) (aCons (pV 0) aNil))))
    (sSeq (sIf (bP (pO sNe (pN nLen (aCons (pV 2) aNil)) (pO sAddA (pN nLen (aCons (pV 1) aNil)) (pC (.int 1))))) sNo sNil)
    (sSeq (sSet 3 (mE (eF (fLst aNil))))
    (sSeq (sForL (iN zipD (aCons (pV 1) (aCons (pV 2) aNil))) (gT (gsCons (bN 4) (gsCons (bN 5) gsNil))) (sSet 3 (mE (eAddA (pO sAddA (pO sAddA (pV 3) (pO sMulA (pLst (aCons (pC (.int 0)) aNil)) (pV 5))) (pF (fList (aCons (pV 0) aNil)))) (pF (fList (aCons (pV 4) aNil)))))))
    (sRet (mE (eAddA (pV 3) (pO sMulA (pLst (aCons (pC (.int 0)) aNil)) (pO ixD (pV 2) (pU sNeg (pC (.int 1))))))))))))
def sem_line_of : Fn := fnSem [false, false, false] 6 c_line_of
abbrev st_Finder___init__ : Stmt := inClass (top 12) 0
abbrev N_Finder___init__ : List Str := ["self", "mark", "tolerance", "size"]
def c_Finder___init__ : Sm := (sSeq (sDrop (mE (eN (cE sem_check_mark) (aCons (pV 1) aNil))))
    (sSeq (sFld 0 0 0 (mE (eF (fList (aCons (pV 1) aNil)))))
    (sSeq (sFld 0 0 1 (mE (eV 2)))
    (sSeq (sFld 0 0 2 (mE (eV 3)))
    (sSeq (sFld 0 0 3 (mE (eF (fLst aNil))))
    (sSeq (sFld 0 0 4 (mE (eP (pC (.int 0)))))
    (sFld 0 0 5 (mE (eP (pC (.bl false)))))))))))
def sem_Finder___init__ : Fn := fnSem [true, false, false, false] 4 c_Finder___init__
abbrev st_Finder__look : Stmt := inClass (top 12) 2
abbrev N_Finder__look : List Str := ["self", "at", "size"]
noncomputable def c_Finder__look : Sm := (sSeq (sSet 2 (mE (eP (pN nLen (aCons (pFld 0 0 (pV 0)) aNil)))))
    (sSeq (sWhile (bP (pO sLe (pO sAddA (pV 1) (pV 2)) (pN nLen (aCons (pFld 0 3 (pV 0)) aNil)))) (sSeq (sIf (bP (pO sLe (pN (cP sem_distance) (aCons (pF (fSl (pFld 0 3 (pV 0)) (some (pV 1)) (some (pO sAddA (pV 1) (pV 2))))) (aCons (pFld 0 0 (pV 0)) aNil))) (pFld 0 1 (pV 0)))) (sSeq (sFld 0 0 5 (mE (eP (pC (.bl true)))))
    (sRet (mE (eV 1)))) sNil)
    (sAug 1 sAdd (pC (.int 1)))))
    (sRet (mE (eV 1)))))
noncomputable def sem_Finder__look : Fn := fnSem [true, false] 3 c_Finder__look
abbrev st_law_bits : Stmt := top 16
abbrev N_law_bits : List Str := ["_law_draws_here", "_law_k", "_law_count", "_law_j"]
def c_law_bits : Sm := (sRet (mE (eF (fLc (iN rg1 (aCons (pV 2) aNil)) (gN 3) bYes (pN (cP sem_law_mix) (aCons (pV 0) (aCons (pO sAddA (pV 1) (pV 3)) (aCons (pC (.int 2)) aNil)))) [3]))))
def sem_law_bits : Fn := fnSem [false, false, false] 4 c_law_bits
abbrev st_law_turned : Stmt := top 17
abbrev N_law_turned : List Str := ["_law_draws_here", "_law_line", "_law_owners", "_law_size", "_law_tolerance", "_law_out", "_law_turned_here", "_law_run", "_law_place", "_law_near"]
def c_law_turned : Sm := (sSeq (sSet 5 (mE (eF (fList (aCons (pV 1) aNil)))))
    (sSeq (sSet 6 (mE (eF (fLst aNil))))
    (sSeq (sSet 7 (mE (eF (fLst aNil))))
    (sSeq (sFor (iN rg1 (aCons (pN nLen (aCons (pV 1) aNil)) aNil)) (bN 8) (sIf (bP (pO sEq (pO ixD (pV 2) (pV 8)) (pC (.str "payload")))) (sSeq (sSet 7 (mE (eF (fLst aNil))))
    (sSetI (.s 5) (pV 8) (mE (eP (pO sXor (pO ixD (pV 1) (pV 8)) (pN nInt (aCons (pO sEq (pN (cP sem_law_mix) (aCons (pV 0) (aCons (pO sAddA (pC (.int 400)) (pV 8)) (aCons (pC (.int 3)) aNil)))) (pC (.int 1))) aNil))))))) (sSeq (sSet 7 (mE (eAddA (pV 7) (pLst (aCons (pC (.int 0)) aNil)))))
    (sSeq (sSet 9 (mE (eP (pN nSum (aCons (pF (fSl (pV 7) (some (pU sNeg (pV 3))) none)) aNil)))))
    (sIf (bAnd (bP (pO sLt (pV 9) (pV 4))) (bP (pO sGt (pN (cP sem_law_mix) (aCons (pV 0) (aCons (pO sAddA (pC (.int 400)) (pV 8)) (aCons (pC (.int 3)) aNil)))) (pC (.int 0))))) (sSeq (sSetI (.s 7) (pU sNeg (pC (.int 1))) (mE (eP (pC (.int 1)))))
    (sSetI (.s 5) (pV 8) (mE (eP (pO sSub (pC (.int 1)) (pO ixD (pV 1) (pV 8))))))) sNil)))))
    (sRet (mMv 5))))))
def sem_law_turned : Fn := fnSem [false, false, false, false, false] 10 c_law_turned
abbrev st_Finder_feed : Stmt := inClass (top 12) 1
abbrev N_Finder_feed : List Str := ["self", "bits", "found", "at", "going", "frame"]
noncomputable def c_Finder_feed : Sm := (sSeq (sFld 0 0 3 (mE (eAddA (pFld 0 3 (pV 0)) (pF (fList (aCons (pV 1) aNil))))))
    (sSeq (sSet 2 (mE (eF (fLst aNil))))
    (sSeq (sSet 3 (mE (eP (pC (.int 0)))))
    (sSeq (sSet 4 (mE (eP (pC (.bl true)))))
    (sSeq (sWhile (bP (pV 4)) (sSeq (sIf (bNot (bP (pFld 0 5 (pV 0)))) (sSet 3 (mNoex (mMeth (.s 0) 0 sem_Finder__look (aCons (pV 3) aNil)))) sNil)
    (sSeq (sSet 5 (mE (eM 0 sem_Finder__whole (pV 0) (aCons (pV 3) aNil))))
    (sIf (bP (pO sIsN (pV 5) (pC .non))) (sSet 4 (mE (eP (pC (.bl false))))) (sSeq (sFrz [5] (sApp (.s 2) (eTup (esCons (eAddA (pFld 0 4 (pV 0)) (pV 3)) (esCons (eV 5) esNil)))))
    (sSeq (sAug 3 sAdd (pO sAddA (pN nLen (aCons (pFld 0 0 (pV 0)) aNil)) (pFld 0 2 (pV 0))))
    (sFld 0 0 5 (mE (eP (pC (.bl false)))))))))))
    (sSeq (sFld 0 0 3 (mE (eF (fSl (pFld 0 3 (pV 0)) (some (pV 3)) none))))
    (sSeq (sFldA 0 0 4 sAdd (pV 3))
    (sRet (mMv 2)))))))))
noncomputable def sem_Finder_feed : Fn := fnSem [true, false] 6 c_Finder_feed
abbrev st_law : Stmt := top 18
abbrev N_law : List Str := ["_law_script", "_law_draws_here", "_law_mark", "_law_tolerance", "_law_size", "_law_payloads", "_law_idles", "_law_line", "_law_due", "_law_owners", "_law_places", "_law_k", "_law_received", "_law_finder", "_law_found", "_law_at", "_law_turn", "_law_part", "_law_start", "_law_place"]
noncomputable def c_law : Sm := (sSeq (sSet 1 (mE (eN (cE sem_law_draws) (aCons (pV 0) aNil))))
    (sSeq (sSet 2 (mE (eN (cE sem_law_bits) (aCons (pV 1) (aCons (pC (.int 10)) (aCons (pO sAddA (pC (.int 1)) (pN (cP sem_law_mix) (aCons (pV 1) (aCons (pC (.int 0)) (aCons (pC (.int 10)) aNil))))) aNil))))))
    (sSeq (sIf (bP (pO sEq (pN (cP sem_guard) (aCons (pV 2) aNil)) (pC (.int 0)))) (sSet 2 (mE (eAddA (pLst (aCons (pC (.int 1)) aNil)) (pO sMulA (pLst (aCons (pC (.int 0)) aNil)) (pN (cP sem_law_mix) (aCons (pV 1) (aCons (pC (.int 0)) (aCons (pC (.int 10)) aNil)))))))) sNil)
    (sSeq (sSet 3 (mE (eN (cE sem_law_mix) (aCons (pV 1) (aCons (pC (.int 1)) (aCons (pO sAddA (pO sDiv (pN nInt (aCons (pO sSub (pN (cP sem_guard) (aCons (pV 2) aNil)) (pC (.int 1))) aNil)) (pC (.int 2))) (pC (.int 1))) aNil))))))
    (sSeq (sSet 4 (mE (eN (cE sem_law_mix) (aCons (pV 1) (aCons (pC (.int 2)) (aCons (pC (.int 15)) aNil))))))
    (sSeq (sSet 5 (mE (eLcR (iN rg1 (aCons (pN (cP sem_law_mix) (aCons (pV 1) (aCons (pC (.int 3)) (aCons (pC (.int 6)) aNil)))) aNil)) (bN 11) bYes (eN (cE sem_law_bits) (aCons (pV 1) (aCons (pO sAddA (pC (.int 30)) (pO sMulA (pC (.int 15)) (pV 11))) (aCons (pV 4) aNil)))) [11])))
    (sSeq (sSetL 6 (fLc (iN rg1 (aCons (pO sAddA (pN nLen (aCons (pV 5) aNil)) (pC (.int 1))) aNil)) (gN 11) bYes (pN (cP sem_law_mix) (aCons (pV 1) (aCons (pO sAddA (pC (.int 4)) (pV 11)) (aCons (pO ixD (pLst (aCons (pC (.int 2)) (aCons (pC (.int 20)) aNil))) (pN (cP sem_law_mix) (aCons (pV 1) (aCons (pO sAddA (pC (.int 20)) (pV 11)) (aCons (pC (.int 2)) aNil))))) aNil)))) [11]))
    (sSeq (sSet 7 (mE (eN (cE sem_line_of) (aCons (pV 2) (aCons (pV 5) (aCons (pV 6) aNil))))))
    (sSeq (sSet 8 (mE (eF (fLst aNil))))
    (sSeq (sSet 9 (mE (eF (fLst aNil))))
    (sSeq (sSet 10 (mE (eF (fLst aNil))))
    (sSeq (sFor (iN rg1 (aCons (pN nLen (aCons (pV 5) aNil)) aNil)) (bN 11) (sSeq (sApp (.s 10) (eAddA (pN nLen (aCons (pV 8) aNil)) (pO ixD (pV 6) (pV 11))))
    (sSeq (sSet 8 (mE (eAddA (pO sAddA (pO sAddA (pV 8) (pO sMulA (pLst (aCons (pC (.int 0)) aNil)) (pO ixD (pV 6) (pV 11)))) (pV 2)) (pO ixD (pV 5) (pV 11)))))
    (sSet 9 (mE (eAddA (pO sAddA (pV 9) (pO sMulA (pLst (aCons (pC (.str "idle")) aNil)) (pO sAddA (pO ixD (pV 6) (pV 11)) (pN nLen (aCons (pV 2) aNil))))) (pO sMulA (pLst (aCons (pC (.str "payload")) aNil)) (pV 4))))))))
    (sSeq (sSet 8 (mE (eAddA (pV 8) (pO sMulA (pLst (aCons (pC (.int 0)) aNil)) (pO ixD (pV 6) (pU sNeg (pC (.int 1))))))))
    (sSeq (sSet 9 (mE (eAddA (pV 9) (pO sMulA (pLst (aCons (pC (.str "idle")) aNil)) (pO ixD (pV 6) (pU sNeg (pC (.int 1))))))))
    (sSeq (sIf (bP (pO sNe (pV 7) (pV 8))) (sRet (mE (eP (pC (.bl false))))) sNil)
    (sSeq (sSet 12 (mE (eN (cE sem_law_turned) (aCons (pV 1) (aCons (pV 7) (aCons (pV 9) (aCons (pN nLen (aCons (pV 2) aNil)) (aCons (pV 3) aNil))))))))
    (sSeq (sSet 13 (mE (eMk 0 sem_Finder___init__ (aCons (pV 2) (aCons (pV 3) (aCons (pV 4) aNil))))))
    (sSeq (sSet 14 (mE (eF (fLst aNil))))
    (sSeq (sSet 15 (mE (eP (pC (.int 0)))))
    (sSeq (sFor (iN rg1 (aCons (pO sAddA (pN nLen (aCons (pV 12) aNil)) (pC (.int 1))) aNil)) (bN 16) (sSeq (sSet 17 (mE (eF (fSl (pV 12) (some (pV 15)) (some (pO sAddA (pO sAddA (pV 15) (pC (.int 1))) (pN (cP sem_law_mix) (aCons (pV 1) (aCons (pO sAddA (pC (.int 120)) (pV 16)) (aCons (pO ixD (pLst (aCons (pC (.int 3)) (aCons (pC (.int 25)) aNil))) (pO sMod (pN nInt (aCons (pV 16) aNil)) (pC (.int 2)))) aNil))))))))))
    (sSeq (sSet 14 (mCat (mV 14) (mNoex (mMeth (.s 13) 0 sem_Finder_feed (aCons (pV 17) aNil)))))
    (sSet 15 (mE (eAddA (pV 15) (pN nLen (aCons (pV 17) aNil))))))))
    (sSeq (sSet 18 (mE (eP (pN nLen (aCons (pV 2) aNil)))))
    (sRet (mE (eP (pO sEq (pV 14) (pF (fLc (iL (pV 10)) (gN 19) bYes (pTup (aCons (pV 19) (aCons (pF (fSl (pV 12) (some (pO sAddA (pV 19) (pV 18))) (some (pO sAddA (pO sAddA (pV 19) (pV 18)) (pV 4))))) aNil))) [19])))))))))))))))))))))))))))
noncomputable def sem_law : Fn := fnSem [false] 20 c_law
section
variable {P : Program} {w : World} {K : PySem.W.Frag} {mg : Str → Option Value} {base : Heap}
theorem sc_distance : FnScope N_distance ["one", "two"] (defScope st_distance) := ⟨rfl, rfl, rfl, by decide +kernel, rfl, by decide +kernel, by decide +kernel⟩
theorem ok_distance (B : Bi mg) (R : Ri K) {fa : Addr} {fd : FuncData} (F : Fun K "distance" "distance" st_distance fa fd) : FnOk P w K mg base CX0 1 fa fd ["one", "two"] (spM K sem_distance) := by
  refine fn_ok (k := 0) [false, false] F sc_distance rfl fun cdv A outer s H vs E hr => ?_
  have hu : (A.deeper (envOfC "distance" (defScope st_distance) s.heap.objs.size fa cdv)).units + 64 < cLine := hr.units
  exact (ss_cons (s_if (b_cmp (op_neD hu) so_ne (q_bi call_len sn_len B.g_len boot_len (a_cons q_var a_nil)) (q_bi call_len sn_len B.g_len boot_len (a_cons q_var a_nil))) (ss_one s_no) ss_nil)
    (ss_one (s_ret (m_e (e_p (q_bi call_len sn_len B.g_len boot_len (a_cons (QF.p (f_lc (own := [("k", 2)]) rfl sc_distance.nd (i_range1 B.g_range (a_cons (q_bi call_len sn_len B.g_len boot_len (a_cons q_var a_nil)) a_nil)) (blkOk_by (N := N_distance) (sc := defScope st_distance) (by decide +kernel)) (fun _ _ _ _ _ => (g_name sc_distance.nd)) (fun _ _ _ _ _ => bs_one (b_cmp (op_neD hu) so_ne (q_ix q_var q_var) (q_ix q_var q_var))) (fun _ _ _ _ _ => q_var))) a_nil)))))))
theorem sc_check_mark : FnScope N_check_mark ["mark"] (defScope st_check_mark) := ⟨rfl, rfl, rfl, by decide +kernel, rfl, by decide +kernel, by decide +kernel⟩
theorem ok_check_mark (B : Bi mg) (R : Ri K) {fa : Addr} {fd : FuncData} (F : Fun K "check_mark" "check_mark" st_check_mark fa fd) : FnOk P w K mg base CX0 1 fa fd ["mark"] (spM K sem_check_mark) := by
  refine fn_ok (k := 0) [false] F sc_check_mark rfl fun cdv A outer s H vs E hr => ?_
  have hu : (A.deeper (envOfC "check_mark" (defScope st_check_mark) s.heap.objs.size fa cdv)).units + 64 < cLine := hr.units
  obtain ⟨t_MOST_BITS, v_MOST_BITS⟩ := B.e_MOST_BITS
  exact (ss_one (s_if (b_not (b_chain op_le op_le so_le so_le q_int (q_bi call_len sn_len B.g_len boot_len (a_cons q_var a_nil)) (q_glob (v := .int 32) (u := .int 32 t_MOST_BITS) rfl v_MOST_BITS ⟨_, rfl⟩ (fun _ => .int)))) (ss_one s_no) ss_nil))
theorem sc_before_mark : FnScope N_before_mark ["mark", "j"] (defScope st_before_mark) := ⟨rfl, rfl, rfl, by decide +kernel, rfl, by decide +kernel, by decide +kernel⟩
theorem ok_before_mark (B : Bi mg) (R : Ri K) {fa : Addr} {fd : FuncData} (F : Fun K "before_mark" "before_mark" st_before_mark fa fd) : FnOk P w K mg base CX0 1 fa fd ["mark", "j"] (spM K sem_before_mark) := by
  refine fn_ok (k := 0) [false, false] F sc_before_mark rfl fun cdv A outer s H vs E hr => ?_
  have hu : (A.deeper (envOfC "before_mark" (defScope st_before_mark) s.heap.objs.size fa cdv)).units + 64 < cLine := hr.units
  exact (ss_one (s_ret (m_e (e_addA (q_op op_mulA so_mulA (q_lst (a_cons q_int a_nil)) q_var) (QF.p (f_list B.g_list (a_cons (QF.p (f_sl q_var o_none (o_some (q_op op_sub so_sub (q_bi call_len sn_len B.g_len boot_len (a_cons q_var a_nil)) q_var)))) a_nil)))))))
theorem sc_Finder__whole : FnScope N_Finder__whole ["self", "at"] (defScope st_Finder__whole) := ⟨rfl, rfl, rfl, by decide +kernel, rfl, by decide +kernel, by decide +kernel⟩
theorem ok_Finder__whole (B : Bi mg) (R : Ri K) {fa : Addr} {fd : FuncData} (F : Fun K "_whole" "Finder._whole" st_Finder__whole fa fd) : FnOk P w K mg base CX0 1 fa fd ["self", "at"] (spM K sem_Finder__whole) := by
  refine fn_ok (k := 0) [false, false] F sc_Finder__whole rfl fun cdv A outer s H vs E hr => ?_
  have hu : (A.deeper (envOfC "Finder._whole" (defScope st_Finder__whole) s.heap.objs.size fa cdv)).units + 64 < cLine := hr.units
  exact (ss_cons (s_set (m_e (e_addA q_var (q_bi call_len sn_len B.g_len boot_len (a_cons (q_fld (R.f_Finder__mark) q_var) a_nil)))) sc_Finder__whole.nd (noPin rfl))
    (ss_cons (s_if (b_w (w_or (b_not (b_val (q_fld (R.f_Finder__within) q_var))) (w_or1 (b_cmp op_gt so_gt (q_op op_addA so_addA q_var (q_fld (R.f_Finder__size) q_var)) (q_bi call_len sn_len B.g_len boot_len (a_cons (q_fld (R.f_Finder__held) q_var) a_nil)))))) (ss_one (s_ret (m_e (e_p q_non)))) ss_nil)
    (ss_one (s_ret (m_e (e_f (f_sl (q_fld (R.f_Finder__held) q_var) (o_some q_var) (o_some (q_op op_addA so_addA q_var (q_fld (R.f_Finder__size) q_var))))))))))
theorem sc_law_draws : FnScope N_law_draws ["_law_script"] (defScope st_law_draws) := ⟨rfl, rfl, rfl, by decide +kernel, rfl, by decide +kernel, by decide +kernel⟩
theorem ok_law_draws (B : Bi mg) (R : Ri K) {fa : Addr} {fd : FuncData} (F : Fun K "_law_draws" "_law_draws" st_law_draws fa fd) : FnOk P w K mg base CX0 1 fa fd ["_law_script"] (spM K sem_law_draws) := by
  refine fn_ok (k := 0) [false] F sc_law_draws rfl fun cdv A outer s H vs E hr => ?_
  have hu : (A.deeper (envOfC "_law_draws" (defScope st_law_draws) s.heap.objs.size fa cdv)).units + 64 < cLine := hr.units
  exact (ss_cons (s_set (m_e (e_f (f_lst a_nil))) sc_law_draws.nd (noPin rfl))
    (ss_cons (s_forR .never rfl (r_range1 B.g_range (a_cons (q_bi (call_min2 rfl) sn_min2 B.g_min (by decide +kernel) (a_cons q_int (a_cons (q_bi call_len sn_len B.g_len boot_len (a_cons q_var a_nil)) a_nil))) a_nil)) (gs_name sc_law_draws.nd (noPin rfl)) (ss_cons (s_set (m_e (e_p (q_bi call_abs sn_abs B.g_abs (by decide +kernel) (a_cons (q_ix q_var q_var) a_nil)))) sc_law_draws.nd (noPin rfl))
    (ss_one (s_if (b_cmp op_ge so_ge q_var (q_op op_pow so_pow q_int q_int)) (ss_one (s_forR .never rfl (r_range1 B.g_range (a_cons q_int a_nil)) (gs_name sc_law_draws.nd (noPin rfl)) (ss_one (s_if (b_cmp op_gt so_gt q_var q_int) (ss_cons (s_app l_var (e_p (q_op op_mod so_mod (q_ty call_int1 sn_int B.g_int (by decide +kernel) (a_cons q_var a_nil)) q_int)))
    (ss_one (s_set (m_e (e_p (q_op op_fdiv so_div q_var q_int))) sc_law_draws.nd (noPin rfl)))) ss_nil)))) (ss_cons (s_set (m_e (e_p (q_op op_mod so_mod (q_ty call_int1 sn_int B.g_int (by decide +kernel) (a_cons (q_op op_addA so_addA (q_op op_mulA so_mulA q_var q_int) (q_op op_mulA so_mulA (q_op op_addA so_addA q_var q_int) q_int)) a_nil)) q_int))) sc_law_draws.nd (noPin rfl))
    (ss_cons (s_set (m_e (e_p (q_op op_mod so_mod (q_ty call_int1 sn_int B.g_int (by decide +kernel) (a_cons (q_op op_addA so_addA (q_op op_addA so_addA (q_op op_mulA so_mulA q_var q_int) (q_op op_mulA so_mulA q_int q_var)) q_int) a_nil)) q_int))) sc_law_draws.nd (noPin rfl))
    (ss_cons (s_app l_var (e_p (q_op op_mod so_mod (q_ty call_int1 sn_int B.g_int (by decide +kernel) (a_cons q_var a_nil)) q_int)))
    (ss_one (s_app l_var (e_p (q_op op_mod so_mod (q_ty call_int1 sn_int B.g_int (by decide +kernel) (a_cons (q_op op_fdiv so_div q_var q_int) a_nil)) q_int)))))))))))
    (ss_one (s_ret m_mv))))
theorem sc_law_mix : FnScope N_law_mix ["_law_draws_here", "_law_k", "_law_many"] (defScope st_law_mix) := ⟨rfl, rfl, rfl, by decide +kernel, rfl, by decide +kernel, by decide +kernel⟩
theorem ok_law_mix (B : Bi mg) (R : Ri K) {fa : Addr} {fd : FuncData} (F : Fun K "_law_mix" "_law_mix" st_law_mix fa fd) : FnOk P w K mg base CX0 1 fa fd ["_law_draws_here", "_law_k", "_law_many"] (spM K sem_law_mix) := by
  refine fn_ok (k := 0) [false, false, false] F sc_law_mix rfl fun cdv A outer s H vs E hr => ?_
  have hu : (A.deeper (envOfC "_law_mix" (defScope st_law_mix) s.heap.objs.size fa cdv)).units + 64 < cLine := hr.units
  exact (ss_cons (s_set (m_e (e_p q_int)) sc_law_mix.nd (noPin rfl))
    (ss_cons (s_if (b_cmp op_gt so_gt (q_bi call_len sn_len B.g_len boot_len (a_cons q_var a_nil)) q_int) (ss_one (s_set (m_e (e_p (q_ix q_var (q_op op_mod so_mod (q_ty call_int1 sn_int B.g_int (by decide +kernel) (a_cons q_var a_nil)) (q_bi call_len sn_len B.g_len boot_len (a_cons q_var a_nil)))))) sc_law_mix.nd (noPin rfl))) ss_nil)
    (ss_cons (s_if (b_cmp op_lt so_lt q_var (q_bi call_len sn_len B.g_len boot_len (a_cons q_var a_nil))) (ss_one (s_ret (m_e (e_p (q_op op_mod so_mod (q_ty call_int1 sn_int B.g_int (by decide +kernel) (a_cons q_var a_nil)) q_var))))) ss_nil)
    (ss_one (s_ret (m_e (e_p (q_op op_mod so_mod (q_ty call_int1 sn_int B.g_int (by decide +kernel) (a_cons (q_op op_fdiv so_div (q_ty call_int1 sn_int B.g_int (by decide +kernel) (a_cons (q_op op_addA so_addA (q_op op_mulA so_mulA q_var q_int) (q_op op_mulA so_mulA q_var q_int)) a_nil)) q_int) a_nil)) q_var))))))))
theorem sc_guard : FnScope N_guard ["mark"] (defScope st_guard) := ⟨rfl, rfl, rfl, by decide +kernel, rfl, by decide +kernel, by decide +kernel⟩
theorem ok_guard (B : Bi mg) (R : Ri K) (c_check_mark_ok : CalR P w K mg base CX0 1 "check_mark" sem_check_mark) (c_before_mark_ok : CalR P w K mg base CX0 1 "before_mark" sem_before_mark) (c_distance_ok : CalR P w K mg base CX0 1 "distance" sem_distance) {fa : Addr} {fd : FuncData} (F : Fun K "guard" "guard" st_guard fa fd) : FnOk P w K mg base CX0 2 fa fd ["mark"] (spM K sem_guard) := by
  refine fn_ok (k := 1) [false] F sc_guard rfl fun cdv A outer s H vs E hr => ?_
  have hu : (A.deeper (envOfC "guard" (defScope st_guard) s.heap.objs.size fa cdv)).units + 64 < cLine := hr.units
  exact (ss_cons (s_drop (m_e (e_call c_check_mark_ok mute0 hr (a_cons q_var a_nil))))
    (ss_one (s_ret (m_e (e_p (q_bi (cr_min rfl) sn_min B.g_min (by decide +kernel) (a_cons (QF.p (f_lc (own := [("j", 1)]) rfl sc_guard.nd (i_range2 B.g_range (a_cons q_int (a_cons (q_op op_addA so_addA (q_bi call_len sn_len B.g_len boot_len (a_cons q_var a_nil)) q_int) a_nil))) (blkOk_by (N := N_guard) (sc := defScope st_guard) (by decide +kernel)) (fun _ _ _ _ _ => (g_name sc_guard.nd)) (fun _ _ _ _ _ => bs_nil) (fun _ _ _ _ _ => (q_call c_distance_ok mute0 hr (a_cons q_var (a_cons (q_call c_before_mark_ok mute0 hr (a_cons q_var (a_cons q_var a_nil))) a_nil)))))) a_nil)))))))
theorem sc_line_of : FnScope N_line_of ["mark", "payloads", "idles"] (defScope st_line_of) := ⟨rfl, rfl, rfl, by decide +kernel, rfl, by decide +kernel, by decide +kernel⟩
theorem ok_line_of (B : Bi mg) (R : Ri K) (c_check_mark_ok : CalR P w K mg base CX0 1 "check_mark" sem_check_mark) {fa : Addr} {fd : FuncData} (F : Fun K "line_of" "line_of" st_line_of fa fd) : FnOk P w K mg base CX0 2 fa fd ["mark", "payloads", "idles"] (spM K sem_line_of) := by
  refine fn_ok (k := 1) [false, false, false] F sc_line_of rfl fun cdv A outer s H vs E hr => ?_
  have hu : (A.deeper (envOfC "line_of" (defScope st_line_of) s.heap.objs.size fa cdv)).units + 64 < cLine := hr.units
  exact (ss_cons (s_drop (m_e (e_call c_check_mark_ok mute0 hr (a_cons q_var a_nil))))
    (ss_cons (s_if (b_cmp (op_neD hu) so_ne (q_bi call_len sn_len B.g_len boot_len (a_cons q_var a_nil)) (q_op op_addA so_addA (q_bi call_len sn_len B.g_len boot_len (a_cons q_var a_nil)) q_int)) (ss_one s_no) ss_nil)
    (ss_cons (s_set (m_e (e_f (f_lst a_nil))) sc_line_of.nd (noPin rfl))
    (ss_cons (s_for .never rfl (i_zip B.g_zip (a_cons q_var (a_cons q_var a_nil))) (gs_tup (bl := [(bN 4), (bN 5)]) rfl (gss_cons (gs_name sc_line_of.nd (noPin rfl)) (gss_cons (gs_name sc_line_of.nd (noPin rfl)) gss_nil))) (ss_one (s_set (m_e (e_addA (q_op op_addA so_addA (q_op op_addA so_addA q_var (q_op op_mulA so_mulA (q_lst (a_cons q_int a_nil)) q_var)) (QF.p (f_list B.g_list (a_cons q_var a_nil)))) (QF.p (f_list B.g_list (a_cons q_var a_nil))))) sc_line_of.nd (noPin rfl))))
    (ss_one (s_ret (m_e (e_addA q_var (q_op op_mulA so_mulA (q_lst (a_cons q_int a_nil)) (q_ix q_var (q_un un_neg su_neg q_int)))))))))))
theorem sc_Finder___init__ : FnScope N_Finder___init__ ["self", "mark", "tolerance", "size"] (defScope st_Finder___init__) := ⟨rfl, rfl, rfl, by decide +kernel, rfl, by decide +kernel, by decide +kernel⟩
theorem ok_Finder___init__ (B : Bi mg) (R : Ri K) (c_check_mark_ok : CalR P w K mg base CX0 1 "check_mark" sem_check_mark) {fa : Addr} {fd : FuncData} (F : Fun K "__init__" "Finder.__init__" st_Finder___init__ fa fd) : FnOk P w K mg base CX0 2 fa fd ["self", "mark", "tolerance", "size"] (spM K sem_Finder___init__) := by
  refine fn_ok (k := 1) [true, false, false, false] F sc_Finder___init__ rfl fun cdv A outer s H vs E hr => ?_
  have hu : (A.deeper (envOfC "Finder.__init__" (defScope st_Finder___init__) s.heap.objs.size fa cdv)).units + 64 < cLine := hr.units
  exact (ss_cons (s_drop (m_e (e_call c_check_mark_ok mute0 hr (a_cons q_var a_nil))))
    (ss_cons (s_fld (R.f_Finder__mark) l_var (m_e (e_f (f_list B.g_list (a_cons q_var a_nil)))))
    (ss_cons (s_fld (R.f_Finder__tolerance) l_var (m_e e_var))
    (ss_cons (s_fld (R.f_Finder__size) l_var (m_e e_var))
    (ss_cons (s_fld (R.f_Finder__held) l_var (m_e (e_f (f_lst a_nil))))
    (ss_cons (s_fld (R.f_Finder__place) l_var (m_e (e_p q_int)))
    (ss_one (s_fld (R.f_Finder__within) l_var (m_e (e_p q_bl))))))))))
theorem sc_Finder__look : FnScope N_Finder__look ["self", "at"] (defScope st_Finder__look) := ⟨rfl, rfl, rfl, by decide +kernel, rfl, by decide +kernel, by decide +kernel⟩
theorem ok_Finder__look (B : Bi mg) (R : Ri K) (c_distance_ok : CalR P w K mg base CX0 1 "distance" sem_distance) {fa : Addr} {fd : FuncData} (F : Fun K "_look" "Finder._look" st_Finder__look fa fd) : FnOk P w K mg base CX0 2 fa fd ["self", "at"] (spM K sem_Finder__look) := by
  refine fn_ok (k := 1) [true, false] F sc_Finder__look rfl fun cdv A outer s H vs E hr => ?_
  have hu : (A.deeper (envOfC "Finder._look" (defScope st_Finder__look) s.heap.objs.size fa cdv)).units + 64 < cLine := hr.units
  exact (ss_cons (s_set (m_e (e_p (q_bi call_len sn_len B.g_len boot_len (a_cons (q_fld (R.f_Finder__mark) q_var) a_nil)))) sc_Finder__look.nd (noPin rfl))
    (ss_cons (s_while .never (b_cmp op_le so_le (q_op op_addA so_addA q_var q_var) (q_bi call_len sn_len B.g_len boot_len (a_cons (q_fld (R.f_Finder__held) q_var) a_nil))) (ss_cons (s_if (b_cmp op_le so_le (q_call c_distance_ok mute0 hr (a_cons (QF.p (f_sl (q_fld (R.f_Finder__held) q_var) (o_some q_var) (o_some (q_op op_addA so_addA q_var q_var)))) (a_cons (q_fld (R.f_Finder__mark) q_var) a_nil))) (q_fld (R.f_Finder__tolerance) q_var)) (ss_cons (s_fld (R.f_Finder__within) l_var (m_e (e_p q_bl)))
    (ss_one (s_ret (m_e e_var)))) ss_nil)
    (ss_one (s_aug ip_add so_add q_int sc_Finder__look.nd (noPin rfl)))))
    (ss_one (s_ret (m_e e_var)))))
theorem sc_law_bits : FnScope N_law_bits ["_law_draws_here", "_law_k", "_law_count"] (defScope st_law_bits) := ⟨rfl, rfl, rfl, by decide +kernel, rfl, by decide +kernel, by decide +kernel⟩
theorem ok_law_bits (B : Bi mg) (R : Ri K) (c_law_mix_ok : CalR P w K mg base CX0 1 "_law_mix" sem_law_mix) {fa : Addr} {fd : FuncData} (F : Fun K "_law_bits" "_law_bits" st_law_bits fa fd) : FnOk P w K mg base CX0 2 fa fd ["_law_draws_here", "_law_k", "_law_count"] (spM K sem_law_bits) := by
  refine fn_ok (k := 1) [false, false, false] F sc_law_bits rfl fun cdv A outer s H vs E hr => ?_
  have hu : (A.deeper (envOfC "_law_bits" (defScope st_law_bits) s.heap.objs.size fa cdv)).units + 64 < cLine := hr.units
  exact (ss_one (s_ret (m_e (e_f (f_lc (own := [("_law_j", 3)]) rfl sc_law_bits.nd (i_range1 B.g_range (a_cons q_var a_nil)) (blkOk_by (N := N_law_bits) (sc := defScope st_law_bits) (by decide +kernel)) (fun _ _ _ _ _ => (g_name sc_law_bits.nd)) (fun _ _ _ _ _ => bs_nil) (fun _ _ _ _ _ => (q_call c_law_mix_ok mute0 hr (a_cons q_var (a_cons (q_op op_addA so_addA q_var q_var) (a_cons q_int a_nil))))))))))
theorem sc_law_turned : FnScope N_law_turned ["_law_draws_here", "_law_line", "_law_owners", "_law_size", "_law_tolerance"] (defScope st_law_turned) := ⟨rfl, rfl, rfl, by decide +kernel, rfl, by decide +kernel, by decide +kernel⟩
theorem ok_law_turned (B : Bi mg) (R : Ri K) (c_law_mix_ok : CalR P w K mg base CX0 1 "_law_mix" sem_law_mix) {fa : Addr} {fd : FuncData} (F : Fun K "_law_turned" "_law_turned" st_law_turned fa fd) : FnOk P w K mg base CX0 2 fa fd ["_law_draws_here", "_law_line", "_law_owners", "_law_size", "_law_tolerance"] (spM K sem_law_turned) := by
  refine fn_ok (k := 1) [false, false, false, false, false] F sc_law_turned rfl fun cdv A outer s H vs E hr => ?_
  have hu : (A.deeper (envOfC "_law_turned" (defScope st_law_turned) s.heap.objs.size fa cdv)).units + 64 < cLine := hr.units
  exact (ss_cons (s_set (m_e (e_f (f_list B.g_list (a_cons q_var a_nil)))) sc_law_turned.nd (noPin rfl))
    (ss_cons (s_set (m_e (e_f (f_lst a_nil))) sc_law_turned.nd (noPin rfl))
    (ss_cons (s_set (m_e (e_f (f_lst a_nil))) sc_law_turned.nd (noPin rfl))
    (ss_cons (s_forR .never rfl (r_range1 B.g_range (a_cons (q_bi call_len sn_len B.g_len boot_len (a_cons q_var a_nil)) a_nil)) (gs_name sc_law_turned.nd (noPin rfl)) (ss_one (s_if (b_cmp (op_eqD hu) so_eq (q_ix q_var q_var) q_str) (ss_cons (s_set (m_e (e_f (f_lst a_nil))) sc_law_turned.nd (noPin rfl))
    (ss_one (s_setI l_var q_var (m_e (e_p (q_op op_xor so_xor (q_ix q_var q_var) (q_ty call_int1 sn_int B.g_int (by decide +kernel) (a_cons (q_cmp (op_eqD hu) so_eq (q_call c_law_mix_ok mute0 hr (a_cons q_var (a_cons (q_op op_addA so_addA q_int q_var) (a_cons q_int a_nil)))) q_int) a_nil)))))))) (ss_cons (s_set (m_e (e_addA q_var (q_lst (a_cons q_int a_nil)))) sc_law_turned.nd (noPin rfl))
    (ss_cons (s_set (m_e (e_p (q_bi (cr_sum rfl) sn_sum B.g_sum (by decide +kernel) (a_cons (QF.p (f_sl q_var (o_some (q_un un_neg su_neg q_var)) o_none)) a_nil)))) sc_law_turned.nd (noPin rfl))
    (ss_one (s_if (b_w (w_and (b_cmp op_lt so_lt q_var q_var) (w_and1 (b_cmp op_gt so_gt (q_call c_law_mix_ok mute0 hr (a_cons q_var (a_cons (q_op op_addA so_addA q_int q_var) (a_cons q_int a_nil)))) q_int)))) (ss_cons (s_setI l_var (q_un un_neg su_neg q_int) (m_e (e_p q_int)))
    (ss_one (s_setI l_var q_var (m_e (e_p (q_op op_sub so_sub q_int (q_ix q_var q_var))))))) ss_nil)))))))
    (ss_one (s_ret m_mv))))))
theorem sc_Finder_feed : FnScope N_Finder_feed ["self", "bits"] (defScope st_Finder_feed) := ⟨rfl, rfl, rfl, by decide +kernel, rfl, by decide +kernel, by decide +kernel⟩
theorem ok_Finder_feed (B : Bi mg) (R : Ri K) (c_Finder__look_ok : MetR P w K mg base CX0 2 0 "_look" sem_Finder__look) (c_Finder__whole_ok : MetR P w K mg base CX0 1 0 "_whole" sem_Finder__whole) {fa : Addr} {fd : FuncData} (F : Fun K "feed" "Finder.feed" st_Finder_feed fa fd) : FnOk P w K mg base CX0 3 fa fd ["self", "bits"] (spM K sem_Finder_feed) := by
  refine fn_ok (k := 2) [true, false] F sc_Finder_feed rfl fun cdv A outer s H vs E hr => ?_
  have hu : (A.deeper (envOfC "Finder.feed" (defScope st_Finder_feed) s.heap.objs.size fa cdv)).units + 64 < cLine := hr.units
  exact (ss_cons (s_fld (R.f_Finder__held) l_var (m_e (e_addA (q_fld (R.f_Finder__held) q_var) (QF.p (f_list B.g_list (a_cons q_var a_nil))))))
    (ss_cons (s_set (m_e (e_f (f_lst a_nil))) sc_Finder_feed.nd (noPin rfl))
    (ss_cons (s_set (m_e (e_p q_int)) sc_Finder_feed.nd (noPin rfl))
    (ss_cons (s_set (m_e (e_p q_bl)) sc_Finder_feed.nd (noPin rfl))
    (ss_cons (s_while .never (b_val q_var) (ss_cons (s_if (b_not (b_val (q_fld (R.f_Finder__within) q_var))) (ss_one (s_set (m_meth c_Finder__look_ok mute0 hr l_var (a_cons q_var a_nil)) sc_Finder_feed.nd (noPin rfl))) ss_nil)
    (ss_cons (s_set (m_e (e_meth c_Finder__whole_ok mute0 hr q_var (a_cons q_var a_nil))) sc_Finder_feed.nd (noPin rfl))
    (ss_one (s_if (b_cmp op_isN so_isN q_var q_non) (ss_one (s_set (m_e (e_p q_bl)) sc_Finder_feed.nd (noPin rfl))) (ss_cons (s_frz [5] (s_app l_var (e_tup (es_cons (e_addA (q_fld (R.f_Finder__place) q_var) q_var) (es_cons e_var es_nil)))))
    (ss_cons (s_aug ip_add so_add (q_op op_addA so_addA (q_bi call_len sn_len B.g_len boot_len (a_cons (q_fld (R.f_Finder__mark) q_var) a_nil)) (q_fld (R.f_Finder__size) q_var)) sc_Finder_feed.nd (noPin rfl))
    (ss_one (s_fld (R.f_Finder__within) l_var (m_e (e_p q_bl)))))))))))
    (ss_cons (s_fld (R.f_Finder__held) l_var (m_e (e_f (f_sl (q_fld (R.f_Finder__held) q_var) (o_some q_var) o_none))))
    (ss_cons (s_fldA (R.f_Finder__place) l_var in_add so_add q_var)
    (ss_one (s_ret m_mv)))))))))
theorem sc_law : FnScope N_law ["_law_script"] (defScope st_law) := ⟨rfl, rfl, rfl, by decide +kernel, rfl, by decide +kernel, by decide +kernel⟩
theorem ok_law (B : Bi mg) (R : Ri K) (c_law_draws_ok : CalR P w K mg base CX0 1 "_law_draws" sem_law_draws) (c_law_mix_ok : CalR P w K mg base CX0 1 "_law_mix" sem_law_mix) (c_law_bits_ok : CalR P w K mg base CX0 2 "_law_bits" sem_law_bits) (c_guard_ok : CalR P w K mg base CX0 2 "guard" sem_guard) (c_line_of_ok : CalR P w K mg base CX0 2 "line_of" sem_line_of) (c_law_turned_ok : CalR P w K mg base CX0 2 "_law_turned" sem_law_turned) (c_Finder___init___ok : MakR P w K mg base CX0 2 "Finder" 0 sem_Finder___init__) (c_Finder_feed_ok : MetR P w K mg base CX0 3 0 "feed" sem_Finder_feed) {fa : Addr} {fd : FuncData} (F : Fun K "law" "law" st_law fa fd) : FnOk P w K mg base CX0 4 fa fd ["_law_script"] (spM K sem_law) := by
  refine fn_ok (k := 3) [false] F sc_law rfl fun cdv A outer s H vs E hr => ?_
  have hu : (A.deeper (envOfC "law" (defScope st_law) s.heap.objs.size fa cdv)).units + 64 < cLine := hr.units
  exact (ss_cons (s_set (m_e (e_call c_law_draws_ok mute0 hr (a_cons q_var a_nil))) sc_law.nd (noPin rfl))
    (ss_cons (s_set (m_e (e_call c_law_bits_ok mute0 hr (a_cons q_var (a_cons q_int (a_cons (q_op op_addA so_addA q_int (q_call c_law_mix_ok mute0 hr (a_cons q_var (a_cons q_int (a_cons q_int a_nil))))) a_nil))))) sc_law.nd (noPin rfl))
    (ss_cons (s_if (b_cmp (op_eqD hu) so_eq (q_call c_guard_ok mute0 hr (a_cons q_var a_nil)) q_int) (ss_one (s_set (m_e (e_addA (q_lst (a_cons q_int a_nil)) (q_op op_mulA so_mulA (q_lst (a_cons q_int a_nil)) (q_call c_law_mix_ok mute0 hr (a_cons q_var (a_cons q_int (a_cons q_int a_nil))))))) sc_law.nd (noPin rfl))) ss_nil)
    (ss_cons (s_set (m_e (e_call c_law_mix_ok mute0 hr (a_cons q_var (a_cons q_int (a_cons (q_op op_addA so_addA (q_op op_fdiv so_div (q_ty call_int1 sn_int B.g_int (by decide +kernel) (a_cons (q_op op_sub so_sub (q_call c_guard_ok mute0 hr (a_cons q_var a_nil)) q_int) a_nil)) q_int) q_int) a_nil))))) sc_law.nd (noPin rfl))
    (ss_cons (s_set (m_e (e_call c_law_mix_ok mute0 hr (a_cons q_var (a_cons q_int (a_cons q_int a_nil))))) sc_law.nd (noPin rfl))
    (ss_cons (s_setLcR (own := [("_law_k", 11)]) rfl sc_law.nd (r_range1 B.g_range (a_cons (q_call c_law_mix_ok mute0 hr (a_cons q_var (a_cons q_int (a_cons q_int a_nil)))) a_nil)) (blkOk_by (N := N_law) (sc := defScope st_law) (by decide +kernel)) (fun _ _ _ _ _ => (gw_name sc_law.nd (noPin rfl))) (fun _ _ _ _ _ => bs_nil) (fun _ _ _ _ _ => (e_call c_law_bits_ok mute0 hr (a_cons q_var (a_cons (q_op op_addA so_addA q_int (q_op op_mulA so_mulA q_int q_var)) (a_cons q_var a_nil))))) kb_n (by intro i hi; simp only [List.map_cons, List.map_nil, List.mem_cons, List.not_mem_nil, or_false] at hi; subst hi; exact noPin rfl) (sw_true rfl rfl rfl (by decide +kernel)) (noPin rfl))
    (ss_cons (s_setLc (own := [("_law_k", 11)]) rfl sc_law.nd (i_range1 B.g_range (a_cons (q_op op_addA so_addA (q_bi call_len sn_len B.g_len boot_len (a_cons q_var a_nil)) q_int) a_nil)) (blkOk_by (N := N_law) (sc := defScope st_law) (by decide +kernel)) (fun _ _ _ _ _ => (g_name sc_law.nd)) (fun _ _ _ _ _ => bs_nil) (fun _ _ _ _ _ => (q_call c_law_mix_ok mute0 hr (a_cons q_var (a_cons (q_op op_addA so_addA q_int q_var) (a_cons (q_ix (q_lst (a_cons q_int (a_cons q_int a_nil))) (q_call c_law_mix_ok mute0 hr (a_cons q_var (a_cons (q_op op_addA so_addA q_int q_var) (a_cons q_int a_nil))))) a_nil))))) (sw_true rfl rfl rfl (by decide +kernel)) (noPin rfl))
    (ss_cons (s_set (m_e (e_call c_line_of_ok mute0 hr (a_cons q_var (a_cons q_var (a_cons q_var a_nil))))) sc_law.nd (noPin rfl))
    (ss_cons (s_set (m_e (e_f (f_lst a_nil))) sc_law.nd (noPin rfl))
    (ss_cons (s_set (m_e (e_f (f_lst a_nil))) sc_law.nd (noPin rfl))
    (ss_cons (s_set (m_e (e_f (f_lst a_nil))) sc_law.nd (noPin rfl))
    (ss_cons (s_forR .never rfl (r_range1 B.g_range (a_cons (q_bi call_len sn_len B.g_len boot_len (a_cons q_var a_nil)) a_nil)) (gs_name sc_law.nd (noPin rfl)) (ss_cons (s_app l_var (e_addA (q_bi call_len sn_len B.g_len boot_len (a_cons q_var a_nil)) (q_ix q_var q_var)))
    (ss_cons (s_set (m_e (e_addA (q_op op_addA so_addA (q_op op_addA so_addA q_var (q_op op_mulA so_mulA (q_lst (a_cons q_int a_nil)) (q_ix q_var q_var))) q_var) (q_ix q_var q_var))) sc_law.nd (noPin rfl))
    (ss_one (s_set (m_e (e_addA (q_op op_addA so_addA q_var (q_op op_mulA so_mulA (q_lst (a_cons q_str a_nil)) (q_op op_addA so_addA (q_ix q_var q_var) (q_bi call_len sn_len B.g_len boot_len (a_cons q_var a_nil))))) (q_op op_mulA so_mulA (q_lst (a_cons q_str a_nil)) q_var))) sc_law.nd (noPin rfl))))))
    (ss_cons (s_set (m_e (e_addA q_var (q_op op_mulA so_mulA (q_lst (a_cons q_int a_nil)) (q_ix q_var (q_un un_neg su_neg q_int))))) sc_law.nd (noPin rfl))
    (ss_cons (s_set (m_e (e_addA q_var (q_op op_mulA so_mulA (q_lst (a_cons q_str a_nil)) (q_ix q_var (q_un un_neg su_neg q_int))))) sc_law.nd (noPin rfl))
    (ss_cons (s_if (b_cmp (op_neD hu) so_ne q_var q_var) (ss_one (s_ret (m_e (e_p q_bl)))) ss_nil)
    (ss_cons (s_set (m_e (e_call c_law_turned_ok mute0 hr (a_cons q_var (a_cons q_var (a_cons q_var (a_cons (q_bi call_len sn_len B.g_len boot_len (a_cons q_var a_nil)) (a_cons q_var a_nil))))))) sc_law.nd (noPin rfl))
    (ss_cons (s_set (m_e (e_mk c_Finder___init___ok mute0 hr (a_cons q_var (a_cons q_var (a_cons q_var a_nil))))) sc_law.nd (noPin rfl))
    (ss_cons (s_set (m_e (e_f (f_lst a_nil))) sc_law.nd (noPin rfl))
    (ss_cons (s_set (m_e (e_p q_int)) sc_law.nd (noPin rfl))
    (ss_cons (s_forR .never rfl (r_range1 B.g_range (a_cons (q_op op_addA so_addA (q_bi call_len sn_len B.g_len boot_len (a_cons q_var a_nil)) q_int) a_nil)) (gs_name sc_law.nd (noPin rfl)) (ss_cons (s_set (m_e (e_f (f_sl q_var (o_some q_var) (o_some (q_op op_addA so_addA (q_op op_addA so_addA q_var q_int) (q_call c_law_mix_ok mute0 hr (a_cons q_var (a_cons (q_op op_addA so_addA q_int q_var) (a_cons (q_ix (q_lst (a_cons q_int (a_cons q_int a_nil))) (q_op op_mod so_mod (q_ty call_int1 sn_int B.g_int (by decide +kernel) (a_cons q_var a_nil)) q_int)) a_nil))))))))) sc_law.nd (noPin rfl))
    (ss_cons (s_set (m_cat m_var (m_meth c_Finder_feed_ok mute0 hr l_var (a_cons q_var a_nil))) sc_law.nd (noPin rfl))
    (ss_one (s_set (m_e (e_addA q_var (q_bi call_len sn_len B.g_len boot_len (a_cons q_var a_nil)))) sc_law.nd (noPin rfl))))))
    (ss_cons (s_set (m_e (e_p (q_bi call_len sn_len B.g_len boot_len (a_cons q_var a_nil)))) sc_law.nd (noPin rfl))
    (ss_one (s_ret (m_e (e_p (q_cmp (op_eqD hu) so_eq q_var (QF.p (f_lc (own := [("_law_place", 19)]) rfl sc_law.nd (i_list q_var) (blkOk_by (N := N_law) (sc := defScope st_law) (by decide +kernel)) (fun _ _ _ _ _ => (g_name sc_law.nd)) (fun _ _ _ _ _ => bs_nil) (fun _ _ _ _ _ => (q_tup (a_cons q_var (a_cons (QF.p (f_sl q_var (o_some (q_op op_addA so_addA q_var q_var)) (o_some (q_op op_addA so_addA (q_op op_addA so_addA q_var q_var) q_var)))) a_nil))))))))))))))))))))))))))))))))
end
/-! ### the end -/
def names : Nat → List Str
  | 0 => ["_mark", "_tolerance", "_size", "_held", "_place", "_within"]
  | _ => []
def cnm : Nat → Str
  | 0 => "Finder"
  | _ => ""
def ctab (K : PySem.W.Frag) : CTab := ⟨fun n => He.ga K (cnm n), names⟩
def d_distance : He.DefD := ⟨("distance", none), "distance", "distance", defArgs st_distance, defBody st_distance, defScope st_distance, [], []⟩
def d_check_mark : He.DefD := ⟨("check_mark", none), "check_mark", "check_mark", defArgs st_check_mark, defBody st_check_mark, defScope st_check_mark, [], []⟩
def d_before_mark : He.DefD := ⟨("before_mark", none), "before_mark", "before_mark", defArgs st_before_mark, defBody st_before_mark, defScope st_before_mark, [], []⟩
def d_Finder__whole : He.DefD := ⟨("Finder", some "_whole"), "_whole", "Finder._whole", defArgs st_Finder__whole, defBody st_Finder__whole, defScope st_Finder__whole, [], []⟩
def d_law_draws : He.DefD := ⟨("_law_draws", none), "_law_draws", "_law_draws", defArgs st_law_draws, defBody st_law_draws, defScope st_law_draws, [], []⟩
def d_law_mix : He.DefD := ⟨("_law_mix", none), "_law_mix", "_law_mix", defArgs st_law_mix, defBody st_law_mix, defScope st_law_mix, [], []⟩
def d_guard : He.DefD := ⟨("guard", none), "guard", "guard", defArgs st_guard, defBody st_guard, defScope st_guard, [], []⟩
def d_line_of : He.DefD := ⟨("line_of", none), "line_of", "line_of", defArgs st_line_of, defBody st_line_of, defScope st_line_of, [], []⟩
def d_Finder___init__ : He.DefD := ⟨("Finder", some "__init__"), "__init__", "Finder.__init__", defArgs st_Finder___init__, defBody st_Finder___init__, defScope st_Finder___init__, [], []⟩
def d_Finder__look : He.DefD := ⟨("Finder", some "_look"), "_look", "Finder._look", defArgs st_Finder__look, defBody st_Finder__look, defScope st_Finder__look, [], []⟩
def d_law_bits : He.DefD := ⟨("_law_bits", none), "_law_bits", "_law_bits", defArgs st_law_bits, defBody st_law_bits, defScope st_law_bits, [], []⟩
def d_law_turned : He.DefD := ⟨("_law_turned", none), "_law_turned", "_law_turned", defArgs st_law_turned, defBody st_law_turned, defScope st_law_turned, [], []⟩
def d_Finder_feed : He.DefD := ⟨("Finder", some "feed"), "feed", "Finder.feed", defArgs st_Finder_feed, defBody st_Finder_feed, defScope st_Finder_feed, [], []⟩
def d_law : He.DefD := ⟨("law", none), "law", "law", defArgs st_law, defBody st_law, defScope st_law, [], []⟩
def fn : List He.DefD := [d_distance, d_check_mark, d_before_mark, d_Finder__whole, d_law_draws, d_law_mix, d_guard, d_line_of, d_Finder___init__, d_Finder__look, d_law_bits, d_law_turned, d_Finder_feed, d_law]
def fa : List He.Fa := [.free "abs", .free "int", .free "len", .free "list", .free "min", .free "range", .free "sum", .free "zip", .int "MOST_BITS" 32, .cls "Finder", .noat "Finder" "_held", .noat "Finder" "_mark", .noat "Finder" "_place", .noat "Finder" "_size", .noat "Finder" "_tolerance", .noat "Finder" "_within", .glo "distance", .glo "check_mark", .glo "before_mark", .meth "Finder" "_whole", .glo "_law_draws", .glo "_law_mix", .glo "guard", .glo "line_of", .glo "Finder", .mkr "Finder", .meth "Finder" "_look", .glo "_law_bits", .glo "_law_turned", .meth "Finder" "feed", .glo "law"]
def loose0 : List Str := ["_wall", "__name__", "HaulError", "WrongSize", "MOST_BITS", "distance", "check_mark", "before_mark", "guard", "line_of", "Finder", "_law_draws", "_law_mix", "_law_bits", "_law_turned"]
def loose : List Str := loose0
abbrev Rw : PySem.W.OpenRow := PySem.W.OpenLaw.row PySem.Challenge.rw_farhaul_k32_whole_frames_are_found
abbrev hk : PySem.W.Hook := He.hookD 4 fa fn
def ob (s : PySem.W.SharedT) : He.AlD := He.obsDG 4 fa fn (HandSHeadRun.getT s)
theorem ob_eq (s : PySem.W.SharedT) : ob s = hk.obs s.abs := He.obsDG_eq (HandSHeadRun.getT_eq s)
theorem run (w : World) : HandSHeadRun.RunEq Rw (PySem.W.view Rw.prog [18]) hk ob 6000 loose w := by
  intro os
  kernel_rfl
theorem facts {P : Program} {w : World} {K : PySem.W.Frag} {h : Heap} {mg : Str → Option Value} (X : K.In h) (G : h.Ns mainGlobals mg) (c : He.SaysD fa fn K) :
    letI := ctab K
    ∃ fd : FuncData, (∀ base : Heap, FnOk P w K mg base CX0 4 (He.fAd K ("law", none)) fd ["_law_script"] (spM K sem_law)) ∧ ∀ (s : Shared) (v : Value), BindsTo s fd ⟨[v], []⟩ [("_law_script", v)] := by
  letI := ctab K
  have B : Bi mg := ⟨He.free_ok X G (c.fact 0 rfl), He.free_ok X G (c.fact 1 rfl), He.free_ok X G (c.fact 2 rfl), He.free_ok X G (c.fact 3 rfl), He.free_ok X G (c.fact 4 rfl), He.free_ok X G (c.fact 5 rfl), He.free_ok X G (c.fact 6 rfl), He.free_ok X G (c.fact 7 rfl), He.int_ok X G (c.fact 8 rfl)⟩
  have R : Ri K := ⟨⟨He.cls_ok (x := "Finder") (c.fact 9 rfl), He.noat_ok (x := "Finder") (c.fact 10 rfl), rfl, by show (names 0).Nodup; decide +kernel, by show (names 0).length < 1000; decide +kernel⟩, ⟨He.cls_ok (x := "Finder") (c.fact 9 rfl), He.noat_ok (x := "Finder") (c.fact 11 rfl), rfl, by show (names 0).Nodup; decide +kernel, by show (names 0).length < 1000; decide +kernel⟩, ⟨He.cls_ok (x := "Finder") (c.fact 9 rfl), He.noat_ok (x := "Finder") (c.fact 12 rfl), rfl, by show (names 0).Nodup; decide +kernel, by show (names 0).length < 1000; decide +kernel⟩, ⟨He.cls_ok (x := "Finder") (c.fact 9 rfl), He.noat_ok (x := "Finder") (c.fact 13 rfl), rfl, by show (names 0).Nodup; decide +kernel, by show (names 0).length < 1000; decide +kernel⟩, ⟨He.cls_ok (x := "Finder") (c.fact 9 rfl), He.noat_ok (x := "Finder") (c.fact 14 rfl), rfl, by show (names 0).Nodup; decide +kernel, by show (names 0).length < 1000; decide +kernel⟩, ⟨He.cls_ok (x := "Finder") (c.fact 9 rfl), He.noat_ok (x := "Finder") (c.fact 15 rfl), rfl, by show (names 0).Nodup; decide +kernel, by show (names 0).length < 1000; decide +kernel⟩⟩
  obtain ⟨fd_distance, F_distance⟩ := c.def_ 0 (d := d_distance) rfl
  obtain ⟨fd_check_mark, F_check_mark⟩ := c.def_ 1 (d := d_check_mark) rfl
  obtain ⟨fd_before_mark, F_before_mark⟩ := c.def_ 2 (d := d_before_mark) rfl
  obtain ⟨fd_Finder__whole, F_Finder__whole⟩ := c.def_ 3 (d := d_Finder__whole) rfl
  obtain ⟨fd_law_draws, F_law_draws⟩ := c.def_ 4 (d := d_law_draws) rfl
  obtain ⟨fd_law_mix, F_law_mix⟩ := c.def_ 5 (d := d_law_mix) rfl
  obtain ⟨fd_guard, F_guard⟩ := c.def_ 6 (d := d_guard) rfl
  obtain ⟨fd_line_of, F_line_of⟩ := c.def_ 7 (d := d_line_of) rfl
  obtain ⟨fd_Finder___init__, F_Finder___init__⟩ := c.def_ 8 (d := d_Finder___init__) rfl
  obtain ⟨fd_Finder__look, F_Finder__look⟩ := c.def_ 9 (d := d_Finder__look) rfl
  obtain ⟨fd_law_bits, F_law_bits⟩ := c.def_ 10 (d := d_law_bits) rfl
  obtain ⟨fd_law_turned, F_law_turned⟩ := c.def_ 11 (d := d_law_turned) rfl
  obtain ⟨fd_Finder_feed, F_Finder_feed⟩ := c.def_ 12 (d := d_Finder_feed) rfl
  obtain ⟨fd_law, F_law⟩ := c.def_ 13 (d := d_law) rfl
  refine ⟨fd_law, fun base => ?_, fun s v => F_law.bindsA (ps := ["_law_script"]) (fun _ _ _ _ _ _ us hl => match us, hl with | [_], _ => rfl) s [v] rfl⟩
  have c_distance_ok : CalR P w K mg base CX0 1 "distance" sem_distance := ⟨_, _, _, (ok_distance B R (He5.fun_of F_distance)), He.glo_ok X G (c.fact 16 rfl), F_distance.kp, (F_distance.bindsN (ps := ["one", "two"]) fun _ _ _ _ _ _ us hl => match us, hl with | [_, _], _ => rfl)⟩
  have c_check_mark_ok : CalR P w K mg base CX0 1 "check_mark" sem_check_mark := ⟨_, _, _, (ok_check_mark B R (He5.fun_of F_check_mark)), He.glo_ok X G (c.fact 17 rfl), F_check_mark.kp, (F_check_mark.bindsN (ps := ["mark"]) fun _ _ _ _ _ _ us hl => match us, hl with | [_], _ => rfl)⟩
  have c_before_mark_ok : CalR P w K mg base CX0 1 "before_mark" sem_before_mark := ⟨_, _, _, (ok_before_mark B R (He5.fun_of F_before_mark)), He.glo_ok X G (c.fact 18 rfl), F_before_mark.kp, (F_before_mark.bindsN (ps := ["mark", "j"]) fun _ _ _ _ _ _ us hl => match us, hl with | [_, _], _ => rfl)⟩
  have c_Finder__whole_ok : MetR P w K mg base CX0 1 0 "_whole" sem_Finder__whole := ⟨⟨_, _, _, (ok_Finder__whole B R (He5.fun_of F_Finder__whole)), He.cls_ok (x := "Finder") (c.fact 9 rfl), He.meth_ok (c.fact 19 rfl), (F_Finder__whole.bindsN (ps := ["self", "at"]) fun _ _ _ _ _ _ us hl => match us, hl with | [_, _], _ => rfl)⟩, by show ("_whole" : Str) ∉ names 0; decide +kernel⟩
  have c_law_draws_ok : CalR P w K mg base CX0 1 "_law_draws" sem_law_draws := ⟨_, _, _, (ok_law_draws B R (He5.fun_of F_law_draws)), He.glo_ok X G (c.fact 20 rfl), F_law_draws.kp, (F_law_draws.bindsN (ps := ["_law_script"]) fun _ _ _ _ _ _ us hl => match us, hl with | [_], _ => rfl)⟩
  have c_law_mix_ok : CalR P w K mg base CX0 1 "_law_mix" sem_law_mix := ⟨_, _, _, (ok_law_mix B R (He5.fun_of F_law_mix)), He.glo_ok X G (c.fact 21 rfl), F_law_mix.kp, (F_law_mix.bindsN (ps := ["_law_draws_here", "_law_k", "_law_many"]) fun _ _ _ _ _ _ us hl => match us, hl with | [_, _, _], _ => rfl)⟩
  have c_guard_ok : CalR P w K mg base CX0 2 "guard" sem_guard := ⟨_, _, _, (ok_guard B R c_check_mark_ok c_before_mark_ok c_distance_ok (He5.fun_of F_guard)), He.glo_ok X G (c.fact 22 rfl), F_guard.kp, (F_guard.bindsN (ps := ["mark"]) fun _ _ _ _ _ _ us hl => match us, hl with | [_], _ => rfl)⟩
  have c_line_of_ok : CalR P w K mg base CX0 2 "line_of" sem_line_of := ⟨_, _, _, (ok_line_of B R c_check_mark_ok (He5.fun_of F_line_of)), He.glo_ok X G (c.fact 23 rfl), F_line_of.kp, (F_line_of.bindsN (ps := ["mark", "payloads", "idles"]) fun _ _ _ _ _ _ us hl => match us, hl with | [_, _, _], _ => rfl)⟩
  have c_Finder___init___ok : MakR P w K mg base CX0 2 "Finder" 0 sem_Finder___init__ := ⟨⟨_, _, _, (ok_Finder___init__ B R c_check_mark_ok (He5.fun_of F_Finder___init__)), He.glo_ok X G (c.fact 24 rfl), He.mkr_ok (c.fact 25 rfl), (F_Finder___init__.bindsN (ps := ["self", "mark", "tolerance", "size"]) fun _ _ _ _ _ _ us hl => match us, hl with | [_, _, _, _], _ => rfl)⟩⟩
  have c_Finder__look_ok : MetR P w K mg base CX0 2 0 "_look" sem_Finder__look := ⟨⟨_, _, _, (ok_Finder__look B R c_distance_ok (He5.fun_of F_Finder__look)), He.cls_ok (x := "Finder") (c.fact 9 rfl), He.meth_ok (c.fact 26 rfl), (F_Finder__look.bindsN (ps := ["self", "at"]) fun _ _ _ _ _ _ us hl => match us, hl with | [_, _], _ => rfl)⟩, by show ("_look" : Str) ∉ names 0; decide +kernel⟩
  have c_law_bits_ok : CalR P w K mg base CX0 2 "_law_bits" sem_law_bits := ⟨_, _, _, (ok_law_bits B R c_law_mix_ok (He5.fun_of F_law_bits)), He.glo_ok X G (c.fact 27 rfl), F_law_bits.kp, (F_law_bits.bindsN (ps := ["_law_draws_here", "_law_k", "_law_count"]) fun _ _ _ _ _ _ us hl => match us, hl with | [_, _, _], _ => rfl)⟩
  have c_law_turned_ok : CalR P w K mg base CX0 2 "_law_turned" sem_law_turned := ⟨_, _, _, (ok_law_turned B R c_law_mix_ok (He5.fun_of F_law_turned)), He.glo_ok X G (c.fact 28 rfl), F_law_turned.kp, (F_law_turned.bindsN (ps := ["_law_draws_here", "_law_line", "_law_owners", "_law_size", "_law_tolerance"]) fun _ _ _ _ _ _ us hl => match us, hl with | [_, _, _, _, _], _ => rfl)⟩
  have c_Finder_feed_ok : MetR P w K mg base CX0 3 0 "feed" sem_Finder_feed := ⟨⟨_, _, _, (ok_Finder_feed B R c_Finder__look_ok c_Finder__whole_ok (He5.fun_of F_Finder_feed)), He.cls_ok (x := "Finder") (c.fact 9 rfl), He.meth_ok (c.fact 29 rfl), (F_Finder_feed.bindsN (ps := ["self", "bits"]) fun _ _ _ _ _ _ us hl => match us, hl with | [_, _], _ => rfl)⟩, by show ("feed" : Str) ∉ names 0; decide +kernel⟩
  exact ok_law B R c_law_draws_ok c_law_mix_ok c_law_bits_ok c_guard_ok c_line_of_ok c_law_turned_ok c_Finder___init___ok c_Finder_feed_ok (He5.fun_of F_law)
/-- the end: all that is left is the plain law -/
theorem holds_of (hlaw : ∀ [CTab] (ns : List Int), ns.length ≤ 63 → ∃ r es', sem_law [.o (.rl (ns.map Dt.int))] = some (.ok r es') ∧ toD r = .bl true) : PySem.Challenge.rw_farhaul_k32_whole_frames_are_found.Holds := by
  open PySem PySem.W PySem.Calls PyProof.Rows in
  w_on; o_law
  refine HandSHeadRun.head_any (r := OpenLaw.row PySem.Challenge.rw_farhaul_k32_whole_frames_are_found) (q := view (OpenLaw.row PySem.Challenge.rw_farhaul_k32_whole_frames_are_found).prog [18]) (H := hk) (ob := ob) (M := 6000) (loose := loose) (d := HandSHeadRun.topDef (OpenLaw.row PySem.Challenge.rw_farhaul_k32_whole_frames_are_found).prog 18) (kwd := []) ob_eq
    (by kernel_rfl) (fun s => by kernel_rfl) run (by kernel_rfl) (by kernel_rfl) (by kernel_rfl) (by rfl) (by first | assumption | decide +kernel) (by decide +kernel) ⟨rfl, rfl, rfl, rfl, rfl, by decide +kernel⟩ ?hw ?hc
  case hw => w_witness2
  case hc =>
    refine L2.walk_ofE (l := PySem.Challenge.rw_farhaul_k32_whole_frames_are_found) (n := 63) (k := 4) (x := "_law_script") (CX := L2.CX0) rfl (by decide) (by kernel_rfl) ⟨rfl, by decide, by decide⟩ ?F (fun _ _ _ _ z => z)
    intro w mg fa' h Y G hmg0
    obtain ⟨K, KX, c⟩ := Y
    have hmg : mg ("law" : PySem.Str) = some (.ref fa') := by
      have e : (HandSHeadRun.topDef (OpenLaw.row PySem.Challenge.rw_farhaul_k32_whole_frames_are_found).prog 18).name = ("law" : PySem.Str) := by kernel_rfl
      rw [← e]
      exact hmg0
    letI := ctab K
    have e := hmg.symm.trans (He.glo_ok KX G (c.fact 30 (f := .glo "law") rfl))
    cases e
    obtain ⟨fd, F0, hb⟩ := facts (P := (PySem.Challenge.rw_farhaul_k32_whole_frames_are_found).prog) (w := w) KX G c
    refine ⟨K, fd, spM K sem_law, KX, hb, fun H a ns hl _ hS => law_sp (hlaw ns hl) hS, fun base _ _ => F0 base⟩
end T32
namespace T32
open PySem PySem.Spec PyProof.Rows L2 Qs
variable [CTab]
/-! the finder over bits that may be wiped -/
theorem szD : sizeLine = 16777216 := by decide
def inB : Dt → Bool | .int _ => true | .non => true | _ => false
def neS : Dt → Dt → Bool
  | .int i, .int j => decide (i ≠ j)
  | .non, .non => false
  | _, _ => true
theorem neS_s {x y : Dt} (hx : inB x = true) (hy : inB y = true) : sNe x y = some (.bl (neS x y)) := by
  cases x <;> simp [inB] at hx <;> cases y <;> simp [inB] at hy
  · rfl
  · rfl
  · rfl
  · exact qv_neI
theorem inB_sc {x : Dt} (hx : inB x = true) : sc x = true := by
  cases x <;> simp [inB] at hx <;> rfl
theorem allB_sc {xs : List Dt} (h : ∀ x ∈ xs, inB x = true) : xs.all sc = true := List.all_eq_true.mpr fun x hx => inB_sc (h x hx)
def distD (xs ys : List Dt) : Nat := ((List.range xs.length).filter fun k => neS (xs.getD k .non) (ys.getD k .non)).length
theorem atI_getD' {xs : List Dt} {i : Int} (h0 : 0 ≤ i) (h1 : i < xs.length) : atI xs i = some (xs.getD i.toNat .non) := by
  obtain ⟨x, hx, h2, _⟩ := atI_some h0 h1
  rw [hx, List.getD, h2]
  rfl
theorem getD_in {xs : List Dt} (h : ∀ x ∈ xs, inB x = true) (k : Nat) : inB (xs.getD k .non) = true := by
  by_cases hk : k < xs.length
  · have := h xs[k] (List.getElem_mem hk)
    simpa [List.getD, hk] using this
  · simp [List.getD, List.getElem?_eq_none (Nat.le_of_not_lt hk), inB]
theorem distD_s {xs ys : List Dt} (hx : ∀ x ∈ xs, inB x = true) (hy : ∀ y ∈ ys, inB y = true) (h : xs.length = ys.length) (h1 : xs.length < 1000000) : sem_distance [.o (.lst xs), .o (.lst ys)] = some (.ok (.n (.int (distD xs ys))) [.o (.lst xs), .o (.lst ys)]) := by
  refine fn_eq rfl ?_
  unfold c_distance
  simp -implicitDefEqProofs (maxSteps := 3000000) only [wp_seq, wp_if, wp_set, wp_ret, wp_drop, wp_app, wp_for, wp_forL, wp_frz, wp_aug, wp_fld, wp_fldA, wp_setL, wp_nil, wp_brk, wp_cont, wp_retN, thenQ_nx, thenQ_rt, thenQ_ex, thenQ_bk, thenQ_ct, setQ_ok, setQ_ex, retQ_ok, retQ_ex, dropQ_ok, dropQ_ex, fldQ_ok, bodyQ_nx, bodyQ_ct, bodyQ_bk, bodyQ_rt, bodyQ_ex, endQ_rt, endQ_nx, endQ_ex, mE_eq, mMv_eq, mV, mNoex, p_V, pC, pU, pO, pN, aNil, aCons, p_B', asB_bl, bNot, bAnd, bOr, pIf, pB, p_ch, qv_add, qv_addA, qv_addL, qv_sub, qv_mul, qv_mulL, qv_div, qv_mod, qv_pow, qv_shl, qv_shr, qv_lt, qv_le, qv_gt, qv_ge, qv_neg, qv_eqI, qv_neI, qv_eqB, qv_neB, qv_ix, qv_ixT, qv_ixR, qv_len, qv_lenT, qv_lenR, qv_abs, qv_int, qv_intB, qv_max2, qv_min2, qv_rg1, qv_rg2, qv_items, qv_itemsT, qv_itemsR, qv_lst, qv_lstR, qv_isN0, qv_isNI, qv_isNL, qv_isNT, qv_noN0, qv_noNI, qv_noNL, qv_noNT, pFld, iL, iT, iN, p_E, sc_int, sc_bl, sc_non, eF, eV, esNil, esCons, eLst, eTup, eN, eAddA, eIf, fLst, fSl, oP, fList, fCat, fRep, pF, pLst, pTup, pSl, gN, gT, gsNil, gsCons, bN, lf, bYes, finE, leaf, getS, getP, getFd, setP, setFd, setF, putE, plSlot, lenE, appE, asL, setE, toD, frz, frzAll, leafE, wipeE, kids, ex_bind, ex_map, ex_if, ex_some, List.getElem?_cons_zero, List.getElem?_cons_succ, List.set_cons_zero, List.set_cons_succ, List.length_cons, List.length_nil, List.length_map, List.map_cons, List.map_nil, List.cons_append, List.nil_append, Option.bind_some, Option.map_some, Option.bind_none, Option.map_none, Option.some.injEq, exists_eq_left, exists_eq_left', and_true, true_and, Et.n.injEq, Et.o.injEq, Et.fl.injEq, Dt.int.injEq, Dt.bl.injEq, decide_eq_true_eq, decide_eq_false_iff_not, forall_const, if_true, if_false, Bool.false_eq_true, reduceIte, List.replicate_succ, List.replicate_zero, true_implies, false_implies, reduceCtorEq, Fz.ok.injEq, List.cons.injEq, atI_map, List.length_append, appE_fl, snoc_i, fLc, cutD_map, sIx_no, all_sc, map_app, rep_fl, rep_int, intsOf_m, qv_min, qv_max, qv_sum, wp_loop0, sc_lst, sc_tup, sc_ob, mMeth, mMethT, tempOk, eMk, eM, pM, obOk, lentOk, own, owns, Bool.and_true, Bool.true_and, Bool.not_true, Bool.not_false, Bool.not_eq_true, Bool.not_eq_false, Bool.not_eq_eq_eq_not, toDs, Nat.reduceAdd, Nat.reduceLT, List.all_nil, Nat.reduceEqDiff, Nat.reduceSub, Nat.reduceMul, Int.reduceLT, Int.reduceLE, Int.reduceAdd, Int.reduceSub, Int.reduceMul, Int.reduceNeg, Int.reduceToNat, Nat.lt_irrefl, Nat.zero_le, Nat.not_lt_zero, Nat.zero_lt_succ]
  refine ⟨fun z => absurd (by rw [h]) z, fun _ => ⟨by unfold lim62; omega, (((List.range xs.length).filter fun k => neS (xs.getD k .non) (ys.getD k .non)).map fun (k : Nat) => (0 + (k : Int) * 1)).map .int, ?_, ?_⟩⟩
  · refine cLp_rF fun j hj => ⟨_, if_pos (by simp), ?_, fun hp => ?_⟩
    · have e1 : atI xs (0 + (j : Int) * 1) = some (xs.getD j .non) := by rw [atI_getD' (by omega) (by omega)]; congr 2; omega
      have e2 : atI ys (0 + (j : Int) * 1) = some (ys.getD j .non) := by rw [atI_getD' (by omega) (by omega)]; congr 2; omega
      simp -implicitDefEqProofs (maxSteps := 3000000) only [wp_seq, wp_if, wp_set, wp_ret, wp_drop, wp_app, wp_for, wp_forL, wp_frz, wp_aug, wp_fld, wp_fldA, wp_setL, wp_nil, wp_brk, wp_cont, wp_retN, thenQ_nx, thenQ_rt, thenQ_ex, thenQ_bk, thenQ_ct, setQ_ok, setQ_ex, retQ_ok, retQ_ex, dropQ_ok, dropQ_ex, fldQ_ok, bodyQ_nx, bodyQ_ct, bodyQ_bk, bodyQ_rt, bodyQ_ex, endQ_rt, endQ_nx, endQ_ex, mE_eq, mMv_eq, mV, mNoex, p_V, pC, pU, pO, pN, aNil, aCons, p_B', asB_bl, bNot, bAnd, bOr, pIf, pB, p_ch, qv_add, qv_addA, qv_addL, qv_sub, qv_mul, qv_mulL, qv_div, qv_mod, qv_pow, qv_shl, qv_shr, qv_lt, qv_le, qv_gt, qv_ge, qv_neg, qv_eqI, qv_neI, qv_eqB, qv_neB, qv_ix, qv_ixT, qv_ixR, qv_len, qv_lenT, qv_lenR, qv_abs, qv_int, qv_intB, qv_max2, qv_min2, qv_rg1, qv_rg2, qv_items, qv_itemsT, qv_itemsR, qv_lst, qv_lstR, qv_isN0, qv_isNI, qv_isNL, qv_isNT, qv_noN0, qv_noNI, qv_noNL, qv_noNT, pFld, iL, iT, iN, p_E, sc_int, sc_bl, sc_non, eF, eV, esNil, esCons, eLst, eTup, eN, eAddA, eIf, fLst, fSl, oP, fList, fCat, fRep, pF, pLst, pTup, pSl, gN, gT, gsNil, gsCons, bN, lf, bYes, finE, leaf, getS, getP, getFd, setP, setFd, setF, putE, plSlot, lenE, appE, asL, setE, toD, frz, frzAll, leafE, wipeE, kids, ex_bind, ex_map, ex_if, ex_some, List.getElem?_cons_zero, List.getElem?_cons_succ, List.set_cons_zero, List.set_cons_succ, List.length_cons, List.length_nil, List.length_map, List.map_cons, List.map_nil, List.cons_append, List.nil_append, Option.bind_some, Option.map_some, Option.bind_none, Option.map_none, Option.some.injEq, exists_eq_left, exists_eq_left', and_true, true_and, Et.n.injEq, Et.o.injEq, Et.fl.injEq, Dt.int.injEq, Dt.bl.injEq, decide_eq_true_eq, decide_eq_false_iff_not, forall_const, if_true, if_false, Bool.false_eq_true, reduceIte, List.replicate_succ, List.replicate_zero, true_implies, false_implies, reduceCtorEq, Fz.ok.injEq, List.cons.injEq, atI_map, List.length_append, appE_fl, snoc_i, fLc, cutD_map, sIx_no, all_sc, map_app, rep_fl, rep_int, intsOf_m, qv_min, qv_max, qv_sum, wp_loop0, sc_lst, sc_tup, sc_ob, mMeth, mMethT, tempOk, eMk, eM, pM, obOk, lentOk, own, owns, Bool.and_true, Bool.true_and, Bool.not_true, Bool.not_false, Bool.not_eq_true, Bool.not_eq_false, Bool.not_eq_eq_eq_not, toDs, Nat.reduceAdd, Nat.reduceLT, List.all_nil, Nat.reduceEqDiff, Nat.reduceSub, Nat.reduceMul, Int.reduceLT, Int.reduceLE, Int.reduceAdd, Int.reduceSub, Int.reduceMul, Int.reduceNeg, Int.reduceToNat, Nat.lt_irrefl, Nat.zero_le, Nat.not_lt_zero, Nat.zero_lt_succ, e1, e2, neS_s (getD_in hx j) (getD_in hy j)]
    · simp -implicitDefEqProofs (maxSteps := 3000000) only [wp_seq, wp_if, wp_set, wp_ret, wp_drop, wp_app, wp_for, wp_forL, wp_frz, wp_aug, wp_fld, wp_fldA, wp_setL, wp_nil, wp_brk, wp_cont, wp_retN, thenQ_nx, thenQ_rt, thenQ_ex, thenQ_bk, thenQ_ct, setQ_ok, setQ_ex, retQ_ok, retQ_ex, dropQ_ok, dropQ_ex, fldQ_ok, bodyQ_nx, bodyQ_ct, bodyQ_bk, bodyQ_rt, bodyQ_ex, endQ_rt, endQ_nx, endQ_ex, mE_eq, mMv_eq, mV, mNoex, p_V, pC, pU, pO, pN, aNil, aCons, p_B', asB_bl, bNot, bAnd, bOr, pIf, pB, p_ch, qv_add, qv_addA, qv_addL, qv_sub, qv_mul, qv_mulL, qv_div, qv_mod, qv_pow, qv_shl, qv_shr, qv_lt, qv_le, qv_gt, qv_ge, qv_neg, qv_eqI, qv_neI, qv_eqB, qv_neB, qv_ix, qv_ixT, qv_ixR, qv_len, qv_lenT, qv_lenR, qv_abs, qv_int, qv_intB, qv_max2, qv_min2, qv_rg1, qv_rg2, qv_items, qv_itemsT, qv_itemsR, qv_lst, qv_lstR, qv_isN0, qv_isNI, qv_isNL, qv_isNT, qv_noN0, qv_noNI, qv_noNL, qv_noNT, pFld, iL, iT, iN, p_E, sc_int, sc_bl, sc_non, eF, eV, esNil, esCons, eLst, eTup, eN, eAddA, eIf, fLst, fSl, oP, fList, fCat, fRep, pF, pLst, pTup, pSl, gN, gT, gsNil, gsCons, bN, lf, bYes, finE, leaf, getS, getP, getFd, setP, setFd, setF, putE, plSlot, lenE, appE, asL, setE, toD, frz, frzAll, leafE, wipeE, kids, ex_bind, ex_map, ex_if, ex_some, List.getElem?_cons_zero, List.getElem?_cons_succ, List.set_cons_zero, List.set_cons_succ, List.length_cons, List.length_nil, List.length_map, List.map_cons, List.map_nil, List.cons_append, List.nil_append, Option.bind_some, Option.map_some, Option.bind_none, Option.map_none, Option.some.injEq, exists_eq_left, exists_eq_left', and_true, true_and, Et.n.injEq, Et.o.injEq, Et.fl.injEq, Dt.int.injEq, Dt.bl.injEq, decide_eq_true_eq, decide_eq_false_iff_not, forall_const, if_true, if_false, Bool.false_eq_true, reduceIte, List.replicate_succ, List.replicate_zero, true_implies, false_implies, reduceCtorEq, Fz.ok.injEq, List.cons.injEq, atI_map, List.length_append, appE_fl, snoc_i, fLc, cutD_map, sIx_no, all_sc, map_app, rep_fl, rep_int, intsOf_m, qv_min, qv_max, qv_sum, wp_loop0, sc_lst, sc_tup, sc_ob, mMeth, mMethT, tempOk, eMk, eM, pM, obOk, lentOk, own, owns, Bool.and_true, Bool.true_and, Bool.not_true, Bool.not_false, Bool.not_eq_true, Bool.not_eq_false, Bool.not_eq_eq_eq_not, toDs, Nat.reduceAdd, Nat.reduceLT, List.all_nil, Nat.reduceEqDiff, Nat.reduceSub, Nat.reduceMul, Int.reduceLT, Int.reduceLE, Int.reduceAdd, Int.reduceSub, Int.reduceMul, Int.reduceNeg, Int.reduceToNat, Nat.lt_irrefl, Nat.zero_le, Nat.not_lt_zero, Nat.zero_lt_succ]
  · simp -implicitDefEqProofs (maxSteps := 3000000) only [wp_seq, wp_if, wp_set, wp_ret, wp_drop, wp_app, wp_for, wp_forL, wp_frz, wp_aug, wp_fld, wp_fldA, wp_setL, wp_nil, wp_brk, wp_cont, wp_retN, thenQ_nx, thenQ_rt, thenQ_ex, thenQ_bk, thenQ_ct, setQ_ok, setQ_ex, retQ_ok, retQ_ex, dropQ_ok, dropQ_ex, fldQ_ok, bodyQ_nx, bodyQ_ct, bodyQ_bk, bodyQ_rt, bodyQ_ex, endQ_rt, endQ_nx, endQ_ex, mE_eq, mMv_eq, mV, mNoex, p_V, pC, pU, pO, pN, aNil, aCons, p_B', asB_bl, bNot, bAnd, bOr, pIf, pB, p_ch, qv_add, qv_addA, qv_addL, qv_sub, qv_mul, qv_mulL, qv_div, qv_mod, qv_pow, qv_shl, qv_shr, qv_lt, qv_le, qv_gt, qv_ge, qv_neg, qv_eqI, qv_neI, qv_eqB, qv_neB, qv_ix, qv_ixT, qv_ixR, qv_len, qv_lenT, qv_lenR, qv_abs, qv_int, qv_intB, qv_max2, qv_min2, qv_rg1, qv_rg2, qv_items, qv_itemsT, qv_itemsR, qv_lst, qv_lstR, qv_isN0, qv_isNI, qv_isNL, qv_isNT, qv_noN0, qv_noNI, qv_noNL, qv_noNT, pFld, iL, iT, iN, p_E, sc_int, sc_bl, sc_non, eF, eV, esNil, esCons, eLst, eTup, eN, eAddA, eIf, fLst, fSl, oP, fList, fCat, fRep, pF, pLst, pTup, pSl, gN, gT, gsNil, gsCons, bN, lf, bYes, finE, leaf, getS, getP, getFd, setP, setFd, setF, putE, plSlot, lenE, appE, asL, setE, toD, frz, frzAll, leafE, wipeE, kids, ex_bind, ex_map, ex_if, ex_some, List.getElem?_cons_zero, List.getElem?_cons_succ, List.set_cons_zero, List.set_cons_succ, List.length_cons, List.length_nil, List.length_map, List.map_cons, List.map_nil, List.cons_append, List.nil_append, Option.bind_some, Option.map_some, Option.bind_none, Option.map_none, Option.some.injEq, exists_eq_left, exists_eq_left', and_true, true_and, Et.n.injEq, Et.o.injEq, Et.fl.injEq, Dt.int.injEq, Dt.bl.injEq, decide_eq_true_eq, decide_eq_false_iff_not, forall_const, if_true, if_false, Bool.false_eq_true, reduceIte, List.replicate_succ, List.replicate_zero, true_implies, false_implies, reduceCtorEq, Fz.ok.injEq, List.cons.injEq, atI_map, List.length_append, appE_fl, snoc_i, fLc, cutD_map, sIx_no, all_sc, map_app, rep_fl, rep_int, intsOf_m, qv_min, qv_max, qv_sum, wp_loop0, sc_lst, sc_tup, sc_ob, mMeth, mMethT, tempOk, eMk, eM, pM, obOk, lentOk, own, owns, Bool.and_true, Bool.true_and, Bool.not_true, Bool.not_false, Bool.not_eq_true, Bool.not_eq_false, Bool.not_eq_eq_eq_not, toDs, Nat.reduceAdd, Nat.reduceLT, List.all_nil, Nat.reduceEqDiff, Nat.reduceSub, Nat.reduceMul, Int.reduceLT, Int.reduceLE, Int.reduceAdd, Int.reduceSub, Int.reduceMul, Int.reduceNeg, Int.reduceToNat, Nat.lt_irrefl, Nat.zero_le, Nat.not_lt_zero, Nat.zero_lt_succ]
    have l1 : ((List.range xs.length).filter fun k => neS (xs.getD k .non) (ys.getD k .non)).length ≤ xs.length := by
      have := List.length_filter_le (fun k => neS (xs.getD k .non) (ys.getD k .non)) (List.range xs.length)
      simpa using this
    refine ⟨by rw [szD]; omega, ?_⟩
    simp [distD]
theorem distD_P {xs ys : List Dt} (hx : ∀ x ∈ xs, inB x = true) (hy : ∀ y ∈ ys, inB y = true) (h : xs.length = ys.length) (h1 : xs.length < 1000000) : cP sem_distance [.lst xs, .lst ys] = some (.int (distD xs ys)) := cP_of (distD_s hx hy h h1)
theorem cutD_M {xs : List Dt} {i j : Int} (h : 0 ≤ i) (h2 : i ≤ j) (h3 : j ≤ xs.length) : Qs.cutD xs (some i) (some j) = (xs.drop i.toNat).take (j - i).toNat := by
  unfold Qs.cutD
  rw [sIx_pos h, sIx_pos (by omega), Nat.min_eq_left (by omega), Nat.min_eq_left (by omega)]
  congr 1
  omega
theorem cutD_E {xs : List Dt} {i : Int} (h : 0 ≤ i) (h2 : i ≤ xs.length) : Qs.cutD xs (some i) none = xs.drop i.toNat := by
  unfold Qs.cutD
  rw [sIx_pos h, sIx_no, Nat.min_eq_left (by omega)]
  exact List.take_of_length_le (by simp)
abbrev fob (m : List Dt) (t p : Int) (h : List Dt) (pl : Int) (w : Bool) : Et := .ob 0 [.fl m, .n (.int t), .n (.int p), .fl h, .n (.int pl), .n (.bl w)]
def hit (B m : List Dt) (t : Int) (x : Nat) : Prop := ((distD ((B.drop x).take m.length) m : Nat) : Int) ≤ t
theorem mem_win {B : List Dt} {a n : Nat} (hB : ∀ x ∈ B, inB x = true) : ∀ x ∈ (B.drop a).take n, inB x = true := fun x hx => hB x (List.mem_of_mem_drop (List.mem_of_mem_take hx))
theorem look_s {m B : List Dt} {t p pl : Int} {x : Nat} (hm : ∀ x ∈ m, inB x = true) (hb : ∀ x ∈ B, inB x = true) (h1 : 1 ≤ m.length) (h2 : m.length ≤ 32) (hB : B.length < 1000000) (hx : x ≤ B.length) : ∃ (a : Nat) (w : Bool), sem_Finder__look [fob m t p B pl false, .o (.int x)] = some (.ok (.n (.int a)) [fob m t p B pl w, .o (.int x)]) ∧ x ≤ a ∧ (a ≤ B.length ∧ (a = x ∨ a + m.length ≤ B.length + 1)) ∧ (∀ y, x ≤ y → y < a → ¬ hit B m t y) ∧ (w = true → a + m.length ≤ B.length ∧ hit B m t a) ∧ (w = false → B.length < a + m.length) := by
  obtain ⟨z, e, a, w, rfl, a1, a2, a3, a4⟩ := fn_wp (pb := [true, false]) (n := 3) (f := c_Finder__look) (es := [fob m t p B pl false, .o (.int x)]) (R := fun z => ∃ (a : Nat) (w : Bool), z = .ok (.n (.int a)) [fob m t p B pl w, .o (.int x)] ∧ (x ≤ a ∧ a ≤ B.length ∧ (a = x ∨ a + m.length ≤ B.length + 1)) ∧ (∀ y, x ≤ y → y < a → ¬ hit B m t y) ∧ (w = true → a + m.length ≤ B.length ∧ hit B m t a) ∧ (w = false → B.length < a + m.length)) rfl (by
    unfold c_Finder__look fob
    simp -implicitDefEqProofs (maxSteps := 3000000) only [wp_seq, wp_if, wp_set, wp_ret, wp_drop, wp_app, wp_for, wp_forL, wp_frz, wp_aug, wp_fld, wp_fldA, wp_setL, wp_nil, wp_brk, wp_cont, wp_retN, thenQ_nx, thenQ_rt, thenQ_ex, thenQ_bk, thenQ_ct, setQ_ok, setQ_ex, retQ_ok, retQ_ex, dropQ_ok, dropQ_ex, fldQ_ok, bodyQ_nx, bodyQ_ct, bodyQ_bk, bodyQ_rt, bodyQ_ex, endQ_rt, endQ_nx, endQ_ex, mE_eq, mMv_eq, mV, mNoex, p_V, pC, pU, pO, pN, aNil, aCons, p_B', asB_bl, bNot, bAnd, bOr, pIf, pB, p_ch, qv_add, qv_addA, qv_addL, qv_sub, qv_mul, qv_mulL, qv_div, qv_mod, qv_pow, qv_shl, qv_shr, qv_lt, qv_le, qv_gt, qv_ge, qv_neg, qv_eqI, qv_neI, qv_eqB, qv_neB, qv_ix, qv_ixT, qv_ixR, qv_len, qv_lenT, qv_lenR, qv_abs, qv_int, qv_intB, qv_max2, qv_min2, qv_rg1, qv_rg2, qv_items, qv_itemsT, qv_itemsR, qv_lst, qv_lstR, qv_isN0, qv_isNI, qv_isNL, qv_isNT, qv_noN0, qv_noNI, qv_noNL, qv_noNT, pFld, iL, iT, iN, p_E, sc_int, sc_bl, sc_non, eF, eV, esNil, esCons, eLst, eTup, eN, eAddA, eIf, fLst, fSl, oP, fList, fCat, fRep, pF, pLst, pTup, pSl, gN, gT, gsNil, gsCons, bN, lf, bYes, finE, leaf, getS, getP, getFd, setP, setFd, setF, putE, plSlot, lenE, appE, asL, setE, toD, frz, frzAll, leafE, wipeE, kids, ex_bind, ex_map, ex_if, ex_some, List.getElem?_cons_zero, List.getElem?_cons_succ, List.set_cons_zero, List.set_cons_succ, List.length_cons, List.length_nil, List.length_map, List.map_cons, List.map_nil, List.cons_append, List.nil_append, Option.bind_some, Option.map_some, Option.bind_none, Option.map_none, Option.some.injEq, exists_eq_left, exists_eq_left', and_true, true_and, Et.n.injEq, Et.o.injEq, Et.fl.injEq, Dt.int.injEq, Dt.bl.injEq, decide_eq_true_eq, decide_eq_false_iff_not, forall_const, if_true, if_false, Bool.false_eq_true, reduceIte, List.replicate_succ, List.replicate_zero, true_implies, false_implies, reduceCtorEq, Fz.ok.injEq, List.cons.injEq, atI_map, List.length_append, appE_fl, snoc_i, fLc, cutD_map, sIx_no, all_sc, map_app, rep_fl, rep_int, intsOf_m, qv_min, qv_max, qv_sum, wp_loop0, sc_lst, sc_tup, sc_ob, mMeth, mMethT, tempOk, eMk, eM, pM, obOk, lentOk, own, owns, Bool.and_true, Bool.true_and, Bool.not_true, Bool.not_false, Bool.not_eq_true, Bool.not_eq_false, Bool.not_eq_eq_eq_not, toDs, Nat.reduceAdd, Nat.reduceLT, List.all_nil, Nat.reduceEqDiff, Nat.reduceSub, Nat.reduceMul, Int.reduceLT, Int.reduceLE, Int.reduceAdd, Int.reduceSub, Int.reduceMul, Int.reduceNeg, Int.reduceToNat, Nat.lt_irrefl, Nat.zero_le, Nat.not_lt_zero, Nat.zero_lt_succ]
    refine wp_while (fun k ρ => ∃ (y : Nat) (e : Et), ρ = [some (fob m t p B pl false), some e, some (.n (.int m.length))] ∧ (e = .o (.int y) ∨ e = .n (.int y)) ∧ (x ≤ y ∧ y ≤ B.length ∧ (y = x ∨ y + m.length ≤ B.length + 1)) ∧ (∀ z, x ≤ z → z < y → ¬ hit B m t z) ∧ k = B.length - y) (m := B.length - x) ⟨x, _, rfl, .inl rfl, ⟨Nat.le_refl _, hx, .inl rfl⟩, fun z a b => by omega, rfl⟩ ?_
    rintro k ρ ⟨y, e, rfl, he, a1, a2, rfl⟩
    have ev : ∀ e : Et, (e = .o (.int y) ∨ e = .n (.int y)) → toD e = .int y := fun e h => by rcases h with rfl | rfl <;> rfl
    refine ⟨decide ((y : Int) + m.length ≤ B.length), ?_, fun h => ?_, fun h => ?_⟩
    · unfold fob
      simp -implicitDefEqProofs (maxSteps := 3000000) only [wp_seq, wp_if, wp_set, wp_ret, wp_drop, wp_app, wp_for, wp_forL, wp_frz, wp_aug, wp_fld, wp_fldA, wp_setL, wp_nil, wp_brk, wp_cont, wp_retN, thenQ_nx, thenQ_rt, thenQ_ex, thenQ_bk, thenQ_ct, setQ_ok, setQ_ex, retQ_ok, retQ_ex, dropQ_ok, dropQ_ex, fldQ_ok, bodyQ_nx, bodyQ_ct, bodyQ_bk, bodyQ_rt, bodyQ_ex, endQ_rt, endQ_nx, endQ_ex, mE_eq, mMv_eq, mV, mNoex, p_V, pC, pU, pO, pN, aNil, aCons, p_B', asB_bl, bNot, bAnd, bOr, pIf, pB, p_ch, qv_add, qv_addA, qv_addL, qv_sub, qv_mul, qv_mulL, qv_div, qv_mod, qv_pow, qv_shl, qv_shr, qv_lt, qv_le, qv_gt, qv_ge, qv_neg, qv_eqI, qv_neI, qv_eqB, qv_neB, qv_ix, qv_ixT, qv_ixR, qv_len, qv_lenT, qv_lenR, qv_abs, qv_int, qv_intB, qv_max2, qv_min2, qv_rg1, qv_rg2, qv_items, qv_itemsT, qv_itemsR, qv_lst, qv_lstR, qv_isN0, qv_isNI, qv_isNL, qv_isNT, qv_noN0, qv_noNI, qv_noNL, qv_noNT, pFld, iL, iT, iN, p_E, sc_int, sc_bl, sc_non, eF, eV, esNil, esCons, eLst, eTup, eN, eAddA, eIf, fLst, fSl, oP, fList, fCat, fRep, pF, pLst, pTup, pSl, gN, gT, gsNil, gsCons, bN, lf, bYes, finE, leaf, getS, getP, getFd, setP, setFd, setF, putE, plSlot, lenE, appE, asL, setE, toD, frz, frzAll, leafE, wipeE, kids, ex_bind, ex_map, ex_if, ex_some, List.getElem?_cons_zero, List.getElem?_cons_succ, List.set_cons_zero, List.set_cons_succ, List.length_cons, List.length_nil, List.length_map, List.map_cons, List.map_nil, List.cons_append, List.nil_append, Option.bind_some, Option.map_some, Option.bind_none, Option.map_none, Option.some.injEq, exists_eq_left, exists_eq_left', and_true, true_and, Et.n.injEq, Et.o.injEq, Et.fl.injEq, Dt.int.injEq, Dt.bl.injEq, decide_eq_true_eq, decide_eq_false_iff_not, forall_const, if_true, if_false, Bool.false_eq_true, reduceIte, List.replicate_succ, List.replicate_zero, true_implies, false_implies, reduceCtorEq, Fz.ok.injEq, List.cons.injEq, atI_map, List.length_append, appE_fl, snoc_i, fLc, cutD_map, sIx_no, all_sc, map_app, rep_fl, rep_int, intsOf_m, qv_min, qv_max, qv_sum, wp_loop0, sc_lst, sc_tup, sc_ob, mMeth, mMethT, tempOk, eMk, eM, pM, obOk, lentOk, own, owns, Bool.and_true, Bool.true_and, Bool.not_true, Bool.not_false, Bool.not_eq_true, Bool.not_eq_false, Bool.not_eq_eq_eq_not, toDs, Nat.reduceAdd, Nat.reduceLT, List.all_nil, Nat.reduceEqDiff, Nat.reduceSub, Nat.reduceMul, Int.reduceLT, Int.reduceLE, Int.reduceAdd, Int.reduceSub, Int.reduceMul, Int.reduceNeg, Int.reduceToNat, Nat.lt_irrefl, Nat.zero_le, Nat.not_lt_zero, Nat.zero_lt_succ, ev e he]
    · have hl : y + m.length ≤ B.length := by
        have := of_decide_eq_true h
        omega
      unfold fob
      simp -implicitDefEqProofs (maxSteps := 3000000) only [wp_seq, wp_if, wp_set, wp_ret, wp_drop, wp_app, wp_for, wp_forL, wp_frz, wp_aug, wp_fld, wp_fldA, wp_setL, wp_nil, wp_brk, wp_cont, wp_retN, thenQ_nx, thenQ_rt, thenQ_ex, thenQ_bk, thenQ_ct, setQ_ok, setQ_ex, retQ_ok, retQ_ex, dropQ_ok, dropQ_ex, fldQ_ok, bodyQ_nx, bodyQ_ct, bodyQ_bk, bodyQ_rt, bodyQ_ex, endQ_rt, endQ_nx, endQ_ex, mE_eq, mMv_eq, mV, mNoex, p_V, pC, pU, pO, pN, aNil, aCons, p_B', asB_bl, bNot, bAnd, bOr, pIf, pB, p_ch, qv_add, qv_addA, qv_addL, qv_sub, qv_mul, qv_mulL, qv_div, qv_mod, qv_pow, qv_shl, qv_shr, qv_lt, qv_le, qv_gt, qv_ge, qv_neg, qv_eqI, qv_neI, qv_eqB, qv_neB, qv_ix, qv_ixT, qv_ixR, qv_len, qv_lenT, qv_lenR, qv_abs, qv_int, qv_intB, qv_max2, qv_min2, qv_rg1, qv_rg2, qv_items, qv_itemsT, qv_itemsR, qv_lst, qv_lstR, qv_isN0, qv_isNI, qv_isNL, qv_isNT, qv_noN0, qv_noNI, qv_noNL, qv_noNT, pFld, iL, iT, iN, p_E, sc_int, sc_bl, sc_non, eF, eV, esNil, esCons, eLst, eTup, eN, eAddA, eIf, fLst, fSl, oP, fList, fCat, fRep, pF, pLst, pTup, pSl, gN, gT, gsNil, gsCons, bN, lf, bYes, finE, leaf, getS, getP, getFd, setP, setFd, setF, putE, plSlot, lenE, appE, asL, setE, toD, frz, frzAll, leafE, wipeE, kids, ex_bind, ex_map, ex_if, ex_some, List.getElem?_cons_zero, List.getElem?_cons_succ, List.set_cons_zero, List.set_cons_succ, List.length_cons, List.length_nil, List.length_map, List.map_cons, List.map_nil, List.cons_append, List.nil_append, Option.bind_some, Option.map_some, Option.bind_none, Option.map_none, Option.some.injEq, exists_eq_left, exists_eq_left', and_true, true_and, Et.n.injEq, Et.o.injEq, Et.fl.injEq, Dt.int.injEq, Dt.bl.injEq, decide_eq_true_eq, decide_eq_false_iff_not, forall_const, if_true, if_false, Bool.false_eq_true, reduceIte, List.replicate_succ, List.replicate_zero, true_implies, false_implies, reduceCtorEq, Fz.ok.injEq, List.cons.injEq, atI_map, List.length_append, appE_fl, snoc_i, fLc, cutD_map, sIx_no, all_sc, map_app, rep_fl, rep_int, intsOf_m, qv_min, qv_max, qv_sum, wp_loop0, sc_lst, sc_tup, sc_ob, mMeth, mMethT, tempOk, eMk, eM, pM, obOk, lentOk, own, owns, Bool.and_true, Bool.true_and, Bool.not_true, Bool.not_false, Bool.not_eq_true, Bool.not_eq_false, Bool.not_eq_eq_eq_not, toDs, Nat.reduceAdd, Nat.reduceLT, List.all_nil, Nat.reduceEqDiff, Nat.reduceSub, Nat.reduceMul, Int.reduceLT, Int.reduceLE, Int.reduceAdd, Int.reduceSub, Int.reduceMul, Int.reduceNeg, Int.reduceToNat, Nat.lt_irrefl, Nat.zero_le, Nat.not_lt_zero, Nat.zero_lt_succ, ev e he]
      rw [cutD_M (by omega) (by omega) (by omega)]
      have e1 : ((y : Int) + m.length - y).toNat = m.length := by omega
      have e2 : (y : Int).toNat = y := by omega
      have ed : cP sem_distance [.lst ((B.drop y).take m.length), .lst m] = some (.int (distD ((B.drop y).take m.length) m)) := distD_P (mem_win hb) hm (by simp; omega) (by simp; omega)
      rw [e1, e2]
      simp -implicitDefEqProofs (maxSteps := 3000000) only [wp_seq, wp_if, wp_set, wp_ret, wp_drop, wp_app, wp_for, wp_forL, wp_frz, wp_aug, wp_fld, wp_fldA, wp_setL, wp_nil, wp_brk, wp_cont, wp_retN, thenQ_nx, thenQ_rt, thenQ_ex, thenQ_bk, thenQ_ct, setQ_ok, setQ_ex, retQ_ok, retQ_ex, dropQ_ok, dropQ_ex, fldQ_ok, bodyQ_nx, bodyQ_ct, bodyQ_bk, bodyQ_rt, bodyQ_ex, endQ_rt, endQ_nx, endQ_ex, mE_eq, mMv_eq, mV, mNoex, p_V, pC, pU, pO, pN, aNil, aCons, p_B', asB_bl, bNot, bAnd, bOr, pIf, pB, p_ch, qv_add, qv_addA, qv_addL, qv_sub, qv_mul, qv_mulL, qv_div, qv_mod, qv_pow, qv_shl, qv_shr, qv_lt, qv_le, qv_gt, qv_ge, qv_neg, qv_eqI, qv_neI, qv_eqB, qv_neB, qv_ix, qv_ixT, qv_ixR, qv_len, qv_lenT, qv_lenR, qv_abs, qv_int, qv_intB, qv_max2, qv_min2, qv_rg1, qv_rg2, qv_items, qv_itemsT, qv_itemsR, qv_lst, qv_lstR, qv_isN0, qv_isNI, qv_isNL, qv_isNT, qv_noN0, qv_noNI, qv_noNL, qv_noNT, pFld, iL, iT, iN, p_E, sc_int, sc_bl, sc_non, eF, eV, esNil, esCons, eLst, eTup, eN, eAddA, eIf, fLst, fSl, oP, fList, fCat, fRep, pF, pLst, pTup, pSl, gN, gT, gsNil, gsCons, bN, lf, bYes, finE, leaf, getS, getP, getFd, setP, setFd, setF, putE, plSlot, lenE, appE, asL, setE, toD, frz, frzAll, leafE, wipeE, kids, ex_bind, ex_map, ex_if, ex_some, List.getElem?_cons_zero, List.getElem?_cons_succ, List.set_cons_zero, List.set_cons_succ, List.length_cons, List.length_nil, List.length_map, List.map_cons, List.map_nil, List.cons_append, List.nil_append, Option.bind_some, Option.map_some, Option.bind_none, Option.map_none, Option.some.injEq, exists_eq_left, exists_eq_left', and_true, true_and, Et.n.injEq, Et.o.injEq, Et.fl.injEq, Dt.int.injEq, Dt.bl.injEq, decide_eq_true_eq, decide_eq_false_iff_not, forall_const, if_true, if_false, Bool.false_eq_true, reduceIte, List.replicate_succ, List.replicate_zero, true_implies, false_implies, reduceCtorEq, Fz.ok.injEq, List.cons.injEq, atI_map, List.length_append, appE_fl, snoc_i, fLc, cutD_map, sIx_no, all_sc, map_app, rep_fl, rep_int, intsOf_m, qv_min, qv_max, qv_sum, wp_loop0, sc_lst, sc_tup, sc_ob, mMeth, mMethT, tempOk, eMk, eM, pM, obOk, lentOk, own, owns, Bool.and_true, Bool.true_and, Bool.not_true, Bool.not_false, Bool.not_eq_true, Bool.not_eq_false, Bool.not_eq_eq_eq_not, toDs, Nat.reduceAdd, Nat.reduceLT, List.all_nil, Nat.reduceEqDiff, Nat.reduceSub, Nat.reduceMul, Int.reduceLT, Int.reduceLE, Int.reduceAdd, Int.reduceSub, Int.reduceMul, Int.reduceNeg, Int.reduceToNat, Nat.lt_irrefl, Nat.zero_le, Nat.not_lt_zero, Nat.zero_lt_succ, ed]
      rcases he with rfl | rfl
      all_goals
        simp -implicitDefEqProofs (maxSteps := 3000000) only [wp_seq, wp_if, wp_set, wp_ret, wp_drop, wp_app, wp_for, wp_forL, wp_frz, wp_aug, wp_fld, wp_fldA, wp_setL, wp_nil, wp_brk, wp_cont, wp_retN, thenQ_nx, thenQ_rt, thenQ_ex, thenQ_bk, thenQ_ct, setQ_ok, setQ_ex, retQ_ok, retQ_ex, dropQ_ok, dropQ_ex, fldQ_ok, bodyQ_nx, bodyQ_ct, bodyQ_bk, bodyQ_rt, bodyQ_ex, endQ_rt, endQ_nx, endQ_ex, mE_eq, mMv_eq, mV, mNoex, p_V, pC, pU, pO, pN, aNil, aCons, p_B', asB_bl, bNot, bAnd, bOr, pIf, pB, p_ch, qv_add, qv_addA, qv_addL, qv_sub, qv_mul, qv_mulL, qv_div, qv_mod, qv_pow, qv_shl, qv_shr, qv_lt, qv_le, qv_gt, qv_ge, qv_neg, qv_eqI, qv_neI, qv_eqB, qv_neB, qv_ix, qv_ixT, qv_ixR, qv_len, qv_lenT, qv_lenR, qv_abs, qv_int, qv_intB, qv_max2, qv_min2, qv_rg1, qv_rg2, qv_items, qv_itemsT, qv_itemsR, qv_lst, qv_lstR, qv_isN0, qv_isNI, qv_isNL, qv_isNT, qv_noN0, qv_noNI, qv_noNL, qv_noNT, pFld, iL, iT, iN, p_E, sc_int, sc_bl, sc_non, eF, eV, esNil, esCons, eLst, eTup, eN, eAddA, eIf, fLst, fSl, oP, fList, fCat, fRep, pF, pLst, pTup, pSl, gN, gT, gsNil, gsCons, bN, lf, bYes, finE, leaf, getS, getP, getFd, setP, setFd, setF, putE, plSlot, lenE, appE, asL, setE, toD, frz, frzAll, leafE, wipeE, kids, ex_bind, ex_map, ex_if, ex_some, List.getElem?_cons_zero, List.getElem?_cons_succ, List.set_cons_zero, List.set_cons_succ, List.length_cons, List.length_nil, List.length_map, List.map_cons, List.map_nil, List.cons_append, List.nil_append, Option.bind_some, Option.map_some, Option.bind_none, Option.map_none, Option.some.injEq, exists_eq_left, exists_eq_left', and_true, true_and, Et.n.injEq, Et.o.injEq, Et.fl.injEq, Dt.int.injEq, Dt.bl.injEq, decide_eq_true_eq, decide_eq_false_iff_not, forall_const, if_true, if_false, Bool.false_eq_true, reduceIte, List.replicate_succ, List.replicate_zero, true_implies, false_implies, reduceCtorEq, Fz.ok.injEq, List.cons.injEq, atI_map, List.length_append, appE_fl, snoc_i, fLc, cutD_map, sIx_no, all_sc, map_app, rep_fl, rep_int, intsOf_m, qv_min, qv_max, qv_sum, wp_loop0, sc_lst, sc_tup, sc_ob, mMeth, mMethT, tempOk, eMk, eM, pM, obOk, lentOk, own, owns, Bool.and_true, Bool.true_and, Bool.not_true, Bool.not_false, Bool.not_eq_true, Bool.not_eq_false, Bool.not_eq_eq_eq_not, toDs, Nat.reduceAdd, Nat.reduceLT, List.all_nil, Nat.reduceEqDiff, Nat.reduceSub, Nat.reduceMul, Int.reduceLT, Int.reduceLE, Int.reduceAdd, Int.reduceSub, Int.reduceMul, Int.reduceNeg, Int.reduceToNat, Nat.lt_irrefl, Nat.zero_le, Nat.not_lt_zero, Nat.zero_lt_succ]
        refine ⟨fun hh => ⟨y, true, ⟨rfl, rfl⟩, a1, a2, fun _ => ⟨hl, hh⟩, fun z => by simp at z⟩, fun hh => ⟨B.length - (y + 1), by omega, y + 1, .inr (by omega), ⟨by omega, by omega, .inr (by omega)⟩, fun z b1 b2 => ?_, rfl⟩⟩
        by_cases e : z = y
        · subst e
          exact hh
        · exact a2 z b1 (by omega)
    · have hl : ¬ y + m.length ≤ B.length := by
        have := of_decide_eq_false h
        omega
      rcases he with rfl | rfl
      all_goals
        unfold fob
        simp -implicitDefEqProofs (maxSteps := 3000000) only [wp_seq, wp_if, wp_set, wp_ret, wp_drop, wp_app, wp_for, wp_forL, wp_frz, wp_aug, wp_fld, wp_fldA, wp_setL, wp_nil, wp_brk, wp_cont, wp_retN, thenQ_nx, thenQ_rt, thenQ_ex, thenQ_bk, thenQ_ct, setQ_ok, setQ_ex, retQ_ok, retQ_ex, dropQ_ok, dropQ_ex, fldQ_ok, bodyQ_nx, bodyQ_ct, bodyQ_bk, bodyQ_rt, bodyQ_ex, endQ_rt, endQ_nx, endQ_ex, mE_eq, mMv_eq, mV, mNoex, p_V, pC, pU, pO, pN, aNil, aCons, p_B', asB_bl, bNot, bAnd, bOr, pIf, pB, p_ch, qv_add, qv_addA, qv_addL, qv_sub, qv_mul, qv_mulL, qv_div, qv_mod, qv_pow, qv_shl, qv_shr, qv_lt, qv_le, qv_gt, qv_ge, qv_neg, qv_eqI, qv_neI, qv_eqB, qv_neB, qv_ix, qv_ixT, qv_ixR, qv_len, qv_lenT, qv_lenR, qv_abs, qv_int, qv_intB, qv_max2, qv_min2, qv_rg1, qv_rg2, qv_items, qv_itemsT, qv_itemsR, qv_lst, qv_lstR, qv_isN0, qv_isNI, qv_isNL, qv_isNT, qv_noN0, qv_noNI, qv_noNL, qv_noNT, pFld, iL, iT, iN, p_E, sc_int, sc_bl, sc_non, eF, eV, esNil, esCons, eLst, eTup, eN, eAddA, eIf, fLst, fSl, oP, fList, fCat, fRep, pF, pLst, pTup, pSl, gN, gT, gsNil, gsCons, bN, lf, bYes, finE, leaf, getS, getP, getFd, setP, setFd, setF, putE, plSlot, lenE, appE, asL, setE, toD, frz, frzAll, leafE, wipeE, kids, ex_bind, ex_map, ex_if, ex_some, List.getElem?_cons_zero, List.getElem?_cons_succ, List.set_cons_zero, List.set_cons_succ, List.length_cons, List.length_nil, List.length_map, List.map_cons, List.map_nil, List.cons_append, List.nil_append, Option.bind_some, Option.map_some, Option.bind_none, Option.map_none, Option.some.injEq, exists_eq_left, exists_eq_left', and_true, true_and, Et.n.injEq, Et.o.injEq, Et.fl.injEq, Dt.int.injEq, Dt.bl.injEq, decide_eq_true_eq, decide_eq_false_iff_not, forall_const, if_true, if_false, Bool.false_eq_true, reduceIte, List.replicate_succ, List.replicate_zero, true_implies, false_implies, reduceCtorEq, Fz.ok.injEq, List.cons.injEq, atI_map, List.length_append, appE_fl, snoc_i, fLc, cutD_map, sIx_no, all_sc, map_app, rep_fl, rep_int, intsOf_m, qv_min, qv_max, qv_sum, wp_loop0, sc_lst, sc_tup, sc_ob, mMeth, mMethT, tempOk, eMk, eM, pM, obOk, lentOk, own, owns, Bool.and_true, Bool.true_and, Bool.not_true, Bool.not_false, Bool.not_eq_true, Bool.not_eq_false, Bool.not_eq_eq_eq_not, toDs, Nat.reduceAdd, Nat.reduceLT, List.all_nil, Nat.reduceEqDiff, Nat.reduceSub, Nat.reduceMul, Int.reduceLT, Int.reduceLE, Int.reduceAdd, Int.reduceSub, Int.reduceMul, Int.reduceNeg, Int.reduceToNat, Nat.lt_irrefl, Nat.zero_le, Nat.not_lt_zero, Nat.zero_lt_succ]
        exact ⟨y, false, ⟨rfl, rfl⟩, a1, a2, fun z => by simp at z, fun _ => by omega⟩)
  exact ⟨a, w, e, a1.1, a1.2, a2, a3, a4⟩
theorem whole_n {m B : List Dt} {t p pl : Int} {w : Bool} {a : Nat} (p0 : 0 ≤ p) (h : w = true → (B.length : Int) < a + m.length + p) : cE sem_Finder__whole [.ob 0 [.lst m, .int t, .int p, .lst B, .int pl, .bl w], .int a] = some (.n .non) := by
  refine cE_of (es := [.o (.ob 0 [.lst m, .int t, .int p, .lst B, .int pl, .bl w]), .o (.int a)]) (fn_eq rfl ?_)
  unfold c_Finder__whole
  cases w with
  | false => simp -implicitDefEqProofs (maxSteps := 3000000) only [wp_seq, wp_if, wp_set, wp_ret, wp_drop, wp_app, wp_for, wp_forL, wp_frz, wp_aug, wp_fld, wp_fldA, wp_setL, wp_nil, wp_brk, wp_cont, wp_retN, thenQ_nx, thenQ_rt, thenQ_ex, thenQ_bk, thenQ_ct, setQ_ok, setQ_ex, retQ_ok, retQ_ex, dropQ_ok, dropQ_ex, fldQ_ok, bodyQ_nx, bodyQ_ct, bodyQ_bk, bodyQ_rt, bodyQ_ex, endQ_rt, endQ_nx, endQ_ex, mE_eq, mMv_eq, mV, mNoex, p_V, pC, pU, pO, pN, aNil, aCons, p_B', asB_bl, bNot, bAnd, bOr, pIf, pB, p_ch, qv_add, qv_addA, qv_addL, qv_sub, qv_mul, qv_mulL, qv_div, qv_mod, qv_pow, qv_shl, qv_shr, qv_lt, qv_le, qv_gt, qv_ge, qv_neg, qv_eqI, qv_neI, qv_eqB, qv_neB, qv_ix, qv_ixT, qv_ixR, qv_len, qv_lenT, qv_lenR, qv_abs, qv_int, qv_intB, qv_max2, qv_min2, qv_rg1, qv_rg2, qv_items, qv_itemsT, qv_itemsR, qv_lst, qv_lstR, qv_isN0, qv_isNI, qv_isNL, qv_isNT, qv_noN0, qv_noNI, qv_noNL, qv_noNT, pFld, iL, iT, iN, p_E, sc_int, sc_bl, sc_non, eF, eV, esNil, esCons, eLst, eTup, eN, eAddA, eIf, fLst, fSl, oP, fList, fCat, fRep, pF, pLst, pTup, pSl, gN, gT, gsNil, gsCons, bN, lf, bYes, finE, leaf, getS, getP, getFd, setP, setFd, setF, putE, plSlot, lenE, appE, asL, setE, toD, frz, frzAll, leafE, wipeE, kids, ex_bind, ex_map, ex_if, ex_some, List.getElem?_cons_zero, List.getElem?_cons_succ, List.set_cons_zero, List.set_cons_succ, List.length_cons, List.length_nil, List.length_map, List.map_cons, List.map_nil, List.cons_append, List.nil_append, Option.bind_some, Option.map_some, Option.bind_none, Option.map_none, Option.some.injEq, exists_eq_left, exists_eq_left', and_true, true_and, Et.n.injEq, Et.o.injEq, Et.fl.injEq, Dt.int.injEq, Dt.bl.injEq, decide_eq_true_eq, decide_eq_false_iff_not, forall_const, if_true, if_false, Bool.false_eq_true, reduceIte, List.replicate_succ, List.replicate_zero, true_implies, false_implies, reduceCtorEq, Fz.ok.injEq, List.cons.injEq, atI_map, List.length_append, appE_fl, snoc_i, fLc, cutD_map, sIx_no, all_sc, map_app, rep_fl, rep_int, intsOf_m, qv_min, qv_max, qv_sum, wp_loop0, sc_lst, sc_tup, sc_ob, mMeth, mMethT, tempOk, eMk, eM, pM, obOk, lentOk, own, owns, Bool.and_true, Bool.true_and, Bool.not_true, Bool.not_false, Bool.not_eq_true, Bool.not_eq_false, Bool.not_eq_eq_eq_not, toDs, Nat.reduceAdd, Nat.reduceLT, List.all_nil, Nat.reduceEqDiff, Nat.reduceSub, Nat.reduceMul, Int.reduceLT, Int.reduceLE, Int.reduceAdd, Int.reduceSub, Int.reduceMul, Int.reduceNeg, Int.reduceToNat, Nat.lt_irrefl, Nat.zero_le, Nat.not_lt_zero, Nat.zero_lt_succ]
  | true =>
    simp -implicitDefEqProofs (maxSteps := 3000000) only [wp_seq, wp_if, wp_set, wp_ret, wp_drop, wp_app, wp_for, wp_forL, wp_frz, wp_aug, wp_fld, wp_fldA, wp_setL, wp_nil, wp_brk, wp_cont, wp_retN, thenQ_nx, thenQ_rt, thenQ_ex, thenQ_bk, thenQ_ct, setQ_ok, setQ_ex, retQ_ok, retQ_ex, dropQ_ok, dropQ_ex, fldQ_ok, bodyQ_nx, bodyQ_ct, bodyQ_bk, bodyQ_rt, bodyQ_ex, endQ_rt, endQ_nx, endQ_ex, mE_eq, mMv_eq, mV, mNoex, p_V, pC, pU, pO, pN, aNil, aCons, p_B', asB_bl, bNot, bAnd, bOr, pIf, pB, p_ch, qv_add, qv_addA, qv_addL, qv_sub, qv_mul, qv_mulL, qv_div, qv_mod, qv_pow, qv_shl, qv_shr, qv_lt, qv_le, qv_gt, qv_ge, qv_neg, qv_eqI, qv_neI, qv_eqB, qv_neB, qv_ix, qv_ixT, qv_ixR, qv_len, qv_lenT, qv_lenR, qv_abs, qv_int, qv_intB, qv_max2, qv_min2, qv_rg1, qv_rg2, qv_items, qv_itemsT, qv_itemsR, qv_lst, qv_lstR, qv_isN0, qv_isNI, qv_isNL, qv_isNT, qv_noN0, qv_noNI, qv_noNL, qv_noNT, pFld, iL, iT, iN, p_E, sc_int, sc_bl, sc_non, eF, eV, esNil, esCons, eLst, eTup, eN, eAddA, eIf, fLst, fSl, oP, fList, fCat, fRep, pF, pLst, pTup, pSl, gN, gT, gsNil, gsCons, bN, lf, bYes, finE, leaf, getS, getP, getFd, setP, setFd, setF, putE, plSlot, lenE, appE, asL, setE, toD, frz, frzAll, leafE, wipeE, kids, ex_bind, ex_map, ex_if, ex_some, List.getElem?_cons_zero, List.getElem?_cons_succ, List.set_cons_zero, List.set_cons_succ, List.length_cons, List.length_nil, List.length_map, List.map_cons, List.map_nil, List.cons_append, List.nil_append, Option.bind_some, Option.map_some, Option.bind_none, Option.map_none, Option.some.injEq, exists_eq_left, exists_eq_left', and_true, true_and, Et.n.injEq, Et.o.injEq, Et.fl.injEq, Dt.int.injEq, Dt.bl.injEq, decide_eq_true_eq, decide_eq_false_iff_not, forall_const, if_true, if_false, Bool.false_eq_true, reduceIte, List.replicate_succ, List.replicate_zero, true_implies, false_implies, reduceCtorEq, Fz.ok.injEq, List.cons.injEq, atI_map, List.length_append, appE_fl, snoc_i, fLc, cutD_map, sIx_no, all_sc, map_app, rep_fl, rep_int, intsOf_m, qv_min, qv_max, qv_sum, wp_loop0, sc_lst, sc_tup, sc_ob, mMeth, mMethT, tempOk, eMk, eM, pM, obOk, lentOk, own, owns, Bool.and_true, Bool.true_and, Bool.not_true, Bool.not_false, Bool.not_eq_true, Bool.not_eq_false, Bool.not_eq_eq_eq_not, toDs, Nat.reduceAdd, Nat.reduceLT, List.all_nil, Nat.reduceEqDiff, Nat.reduceSub, Nat.reduceMul, Int.reduceLT, Int.reduceLE, Int.reduceAdd, Int.reduceSub, Int.reduceMul, Int.reduceNeg, Int.reduceToNat, Nat.lt_irrefl, Nat.zero_le, Nat.not_lt_zero, Nat.zero_lt_succ]
    exact ⟨fun _ => trivial, fun z => absurd (h rfl) z⟩
theorem whole_y {m B : List Dt} {t p pl : Int} {a : Nat} (hb : ∀ x ∈ B, inB x = true) (p0 : 0 ≤ p) (h : (a : Int) + m.length + p ≤ B.length) : cE sem_Finder__whole [.ob 0 [.lst m, .int t, .int p, .lst B, .int pl, .bl true], .int a] = some (.fl ((B.drop (a + m.length)).take p.toNat)) := by
  refine cE_of (es := [.o (.ob 0 [.lst m, .int t, .int p, .lst B, .int pl, .bl true]), .o (.int a)]) (fn_eq rfl ?_)
  unfold c_Finder__whole
  simp -implicitDefEqProofs (maxSteps := 3000000) only [wp_seq, wp_if, wp_set, wp_ret, wp_drop, wp_app, wp_for, wp_forL, wp_frz, wp_aug, wp_fld, wp_fldA, wp_setL, wp_nil, wp_brk, wp_cont, wp_retN, thenQ_nx, thenQ_rt, thenQ_ex, thenQ_bk, thenQ_ct, setQ_ok, setQ_ex, retQ_ok, retQ_ex, dropQ_ok, dropQ_ex, fldQ_ok, bodyQ_nx, bodyQ_ct, bodyQ_bk, bodyQ_rt, bodyQ_ex, endQ_rt, endQ_nx, endQ_ex, mE_eq, mMv_eq, mV, mNoex, p_V, pC, pU, pO, pN, aNil, aCons, p_B', asB_bl, bNot, bAnd, bOr, pIf, pB, p_ch, qv_add, qv_addA, qv_addL, qv_sub, qv_mul, qv_mulL, qv_div, qv_mod, qv_pow, qv_shl, qv_shr, qv_lt, qv_le, qv_gt, qv_ge, qv_neg, qv_eqI, qv_neI, qv_eqB, qv_neB, qv_ix, qv_ixT, qv_ixR, qv_len, qv_lenT, qv_lenR, qv_abs, qv_int, qv_intB, qv_max2, qv_min2, qv_rg1, qv_rg2, qv_items, qv_itemsT, qv_itemsR, qv_lst, qv_lstR, qv_isN0, qv_isNI, qv_isNL, qv_isNT, qv_noN0, qv_noNI, qv_noNL, qv_noNT, pFld, iL, iT, iN, p_E, sc_int, sc_bl, sc_non, eF, eV, esNil, esCons, eLst, eTup, eN, eAddA, eIf, fLst, fSl, oP, fList, fCat, fRep, pF, pLst, pTup, pSl, gN, gT, gsNil, gsCons, bN, lf, bYes, finE, leaf, getS, getP, getFd, setP, setFd, setF, putE, plSlot, lenE, appE, asL, setE, toD, frz, frzAll, leafE, wipeE, kids, ex_bind, ex_map, ex_if, ex_some, List.getElem?_cons_zero, List.getElem?_cons_succ, List.set_cons_zero, List.set_cons_succ, List.length_cons, List.length_nil, List.length_map, List.map_cons, List.map_nil, List.cons_append, List.nil_append, Option.bind_some, Option.map_some, Option.bind_none, Option.map_none, Option.some.injEq, exists_eq_left, exists_eq_left', and_true, true_and, Et.n.injEq, Et.o.injEq, Et.fl.injEq, Dt.int.injEq, Dt.bl.injEq, decide_eq_true_eq, decide_eq_false_iff_not, forall_const, if_true, if_false, Bool.false_eq_true, reduceIte, List.replicate_succ, List.replicate_zero, true_implies, false_implies, reduceCtorEq, Fz.ok.injEq, List.cons.injEq, atI_map, List.length_append, appE_fl, snoc_i, fLc, cutD_map, sIx_no, all_sc, map_app, rep_fl, rep_int, intsOf_m, qv_min, qv_max, qv_sum, wp_loop0, sc_lst, sc_tup, sc_ob, mMeth, mMethT, tempOk, eMk, eM, pM, obOk, lentOk, own, owns, Bool.and_true, Bool.true_and, Bool.not_true, Bool.not_false, Bool.not_eq_true, Bool.not_eq_false, Bool.not_eq_eq_eq_not, toDs, Nat.reduceAdd, Nat.reduceLT, List.all_nil, Nat.reduceEqDiff, Nat.reduceSub, Nat.reduceMul, Int.reduceLT, Int.reduceLE, Int.reduceAdd, Int.reduceSub, Int.reduceMul, Int.reduceNeg, Int.reduceToNat, Nat.lt_irrefl, Nat.zero_le, Nat.not_lt_zero, Nat.zero_lt_succ]
  rw [cutD_M (by omega) (by omega) (by omega)]
  have e1 : ((a : Int) + m.length + p - (a + m.length)).toNat = p.toNat := by omega
  have e2 : ((a : Int) + m.length).toNat = a + m.length := by omega
  rw [e1, e2]
  exact ⟨fun z => by omega, fun _ => ⟨allB_sc (mem_win hb), rfl⟩⟩
/-- the search from x on, w: a mark stands at x; what is found, where it stops, and whether a mark stands there -/
inductive Srch (B m : List Dt) (t : Int) (p : Nat) : Nat → Bool → List (Nat × List Dt) → Nat → Bool → Prop
  | no {x a : Nat} : x ≤ a → a ≤ B.length ∧ (a = x ∨ a + m.length ≤ B.length + 1) → (∀ y, x ≤ y → y < a → ¬ hit B m t y) → B.length < a + m.length → Srch B m t p x false [] a false
  | part {x a : Nat} : x ≤ a → (∀ y, x ≤ y → y < a → ¬ hit B m t y) → hit B m t a → a + m.length ≤ B.length → B.length < a + m.length + p → Srch B m t p x false [] a true
  | yes {x a : Nat} {fs : List (Nat × List Dt)} {z : Nat} {w : Bool} : x ≤ a → (∀ y, x ≤ y → y < a → ¬ hit B m t y) → hit B m t a → a + m.length + p ≤ B.length → Srch B m t p (a + m.length + p) false fs z w → Srch B m t p x false ((a, (B.drop (a + m.length)).take p) :: fs) z w
  | still {x : Nat} : x ≤ B.length → B.length < x + m.length + p → Srch B m t p x true [] x true
  | went {x : Nat} {fs : List (Nat × List Dt)} {z : Nat} {w : Bool} : x + m.length + p ≤ B.length → Srch B m t p (x + m.length + p) false fs z w → Srch B m t p x true ((x, (B.drop (x + m.length)).take p) :: fs) z w
abbrev frE (pl : Nat) (f : Nat × List Dt) : Et := .tup [.n (.int ((pl + f.1 : Nat) : Int)), .n (.lst f.2)]
abbrev frD (pl : Nat) (f : Nat × List Dt) : Dt := .tup [.int ((pl + f.1 : Nat) : Int), .lst f.2]
def fsE (pl : Nat) : List (Nat × List Dt) → Et
  | [] => .fl []
  | fs => .lst (fs.map (frE pl))
theorem fsE_app {pl : Nat} {fs : List (Nat × List Dt)} {a : Nat} {P : List Dt} : appE (fsE pl fs) (.tup [.n (.int ((pl : Int) + a)), .n (.lst P)]) = some (fsE pl (fs ++ [(a, P)])) := by
  have e : ((pl : Int) + a) = ((pl + a : Nat) : Int) := by omega
  rw [e]
  cases fs with
  | nil => rfl
  | cons f fs =>
    show some (Et.lst _) = some (Et.lst _)
    rw [List.map_append]
    rfl
theorem fsE_len {pl : Nat} {fs : List (Nat × List Dt)} : lenE (fsE pl fs) = fs.length := by
  cases fs with
  | nil => rfl
  | cons f fs => simp [fsE, lenE]
theorem fsE_own {pl : Nat} {fs : List (Nat × List Dt)} : own (fsE pl fs) = true := by
  cases fs with
  | nil => rfl
  | cons f fs =>
    show owns ((f :: fs).map (frE pl)) = true
    induction (f :: fs) with
    | nil => rfl
    | cons g gs ih => rw [List.map_cons, owns, ih]; rfl
theorem fsE_toD {pl : Nat} {fs : List (Nat × List Dt)} : toD (fsE pl fs) = .lst (fs.map (frD pl)) := by
  cases fs with
  | nil => rfl
  | cons f fs =>
    show Dt.lst (toDs ((f :: fs).map (frE pl))) = _
    rw [toDs_eq, List.map_map]
    rfl
theorem feed_s {m H C : List Dt} {t p : Int} {pl : Nat} {w : Bool} (hm : ∀ x ∈ m, inB x = true) (hH : ∀ x ∈ H, inB x = true) (hC : ∀ x ∈ C, inB x = true) (h1 : 1 ≤ m.length) (h2 : m.length ≤ 32) (hB : H.length + C.length < 1000000) (p0 : 0 ≤ p) : ∃ fs a w', sem_Finder_feed [fob m t p H pl w, .o (.lst C)] = some (.ok (fsE pl fs) [fob m t p ((H ++ C).drop a) ((pl + a : Nat) : Int) w', .o (.lst C)]) ∧ Srch (H ++ C) m t p.toNat 0 w fs a w' ∧ a ≤ (H ++ C).length := by
  have hb : ∀ x ∈ H ++ C, inB x = true := fun x hx => (List.mem_append.mp hx).elim (hH x) (hC x)
  have lB : (H ++ C).length = H.length + C.length := List.length_append
  generalize hBe : H ++ C = B at *
  obtain ⟨z, e, fs, a, w', rfl, a1, a2⟩ := fn_wp (pb := [true, false]) (n := 6) (f := c_Finder_feed) (es := [fob m t p H pl w, .o (.lst C)]) (R := fun z => ∃ fs a w', z = .ok (fsE pl fs) [fob m t p (B.drop a) ((pl + a : Nat) : Int) w', .o (.lst C)] ∧ Srch B m t p.toNat 0 w fs a w' ∧ a ≤ B.length) rfl (by
    unfold c_Finder_feed fob
    have sH := allB_sc hH
    have sC := allB_sc hC
    simp -implicitDefEqProofs (maxSteps := 3000000) only [wp_seq, wp_if, wp_set, wp_ret, wp_drop, wp_app, wp_for, wp_forL, wp_frz, wp_aug, wp_fld, wp_fldA, wp_setL, wp_nil, wp_brk, wp_cont, wp_retN, thenQ_nx, thenQ_rt, thenQ_ex, thenQ_bk, thenQ_ct, setQ_ok, setQ_ex, retQ_ok, retQ_ex, dropQ_ok, dropQ_ex, fldQ_ok, bodyQ_nx, bodyQ_ct, bodyQ_bk, bodyQ_rt, bodyQ_ex, endQ_rt, endQ_nx, endQ_ex, mE_eq, mMv_eq, mV, mNoex, p_V, pC, pU, pO, pN, aNil, aCons, p_B', asB_bl, bNot, bAnd, bOr, pIf, pB, p_ch, qv_add, qv_addA, qv_addL, qv_sub, qv_mul, qv_mulL, qv_div, qv_mod, qv_pow, qv_shl, qv_shr, qv_lt, qv_le, qv_gt, qv_ge, qv_neg, qv_eqI, qv_neI, qv_eqB, qv_neB, qv_ix, qv_ixT, qv_ixR, qv_len, qv_lenT, qv_lenR, qv_abs, qv_int, qv_intB, qv_max2, qv_min2, qv_rg1, qv_rg2, qv_items, qv_itemsT, qv_itemsR, qv_lst, qv_lstR, qv_isN0, qv_isNI, qv_isNL, qv_isNT, qv_noN0, qv_noNI, qv_noNL, qv_noNT, pFld, iL, iT, iN, p_E, sc_int, sc_bl, sc_non, eF, eV, esNil, esCons, eLst, eTup, eN, eAddA, eIf, fLst, fSl, oP, fList, fCat, fRep, pF, pLst, pTup, pSl, gN, gT, gsNil, gsCons, bN, lf, bYes, finE, leaf, getS, getP, getFd, setP, setFd, setF, putE, plSlot, asL, setE, toD, frz, frzAll, leafE, wipeE, kids, ex_bind, ex_map, ex_if, ex_some, List.getElem?_cons_zero, List.getElem?_cons_succ, List.set_cons_zero, List.set_cons_succ, List.length_cons, List.length_nil, List.length_map, List.map_cons, List.map_nil, List.cons_append, List.nil_append, Option.bind_some, Option.map_some, Option.bind_none, Option.map_none, Option.some.injEq, exists_eq_left, exists_eq_left', and_true, true_and, Et.n.injEq, Et.o.injEq, Et.fl.injEq, Dt.int.injEq, Dt.bl.injEq, decide_eq_true_eq, decide_eq_false_iff_not, forall_const, if_true, if_false, Bool.false_eq_true, reduceIte, List.replicate_succ, List.replicate_zero, true_implies, false_implies, reduceCtorEq, Fz.ok.injEq, List.cons.injEq, atI_map, List.length_append, snoc_i, fLc, cutD_map, sIx_no, all_sc, map_app, rep_fl, rep_int, intsOf_m, qv_min, qv_max, qv_sum, wp_loop0, sc_lst, sc_tup, sc_ob, mMeth, mMethT, tempOk, eMk, eM, pM, obOk, lentOk, own, owns, Bool.and_true, Bool.true_and, Bool.not_true, Bool.not_false, Bool.not_eq_true, Bool.not_eq_false, Bool.not_eq_eq_eq_not, toDs, Nat.reduceAdd, Nat.reduceLT, List.all_nil, Nat.reduceEqDiff, Nat.reduceSub, Nat.reduceMul, Int.reduceLT, Int.reduceLE, Int.reduceAdd, Int.reduceSub, Int.reduceMul, Int.reduceNeg, Int.reduceToNat, Nat.lt_irrefl, Nat.zero_le, Nat.not_lt_zero, Nat.zero_lt_succ, sH, sC, hBe]
    refine ⟨by rw [szD]; omega, ?_⟩
    refine wp_while (fun k ρ => ∃ (fs : List (Nat × List Dt)) (x : Nat) (w1 g : Bool) (a : Option Et), ρ = [some (fob m t p B pl w1), some (.o (.lst C)), some (fsE pl fs), some (.n (.int x)), some (.n (.bl g)), a] ∧ x ≤ B.length ∧ (g = true → fs.length ≤ x ∧ k = B.length + 1 - x ∧ ∀ r z w2, Srch B m t p.toNat x w1 r z w2 → Srch B m t p.toNat 0 w (fs ++ r) z w2) ∧ (g = false → Srch B m t p.toNat 0 w fs x w1)) (m := B.length + 1) ⟨[], 0, w, true, none, rfl, by omega, fun _ => ⟨by simp, by omega, fun r z w2 h => h⟩, fun z => by cases z⟩ ?_
    rintro k ρ ⟨fs, x, w1, g, a, rfl, hx, k1, k2⟩
    refine ⟨g, by unfold fob; simp -implicitDefEqProofs (maxSteps := 3000000) only [wp_seq, wp_if, wp_set, wp_ret, wp_drop, wp_app, wp_for, wp_forL, wp_frz, wp_aug, wp_fld, wp_fldA, wp_setL, wp_nil, wp_brk, wp_cont, wp_retN, thenQ_nx, thenQ_rt, thenQ_ex, thenQ_bk, thenQ_ct, setQ_ok, setQ_ex, retQ_ok, retQ_ex, dropQ_ok, dropQ_ex, fldQ_ok, bodyQ_nx, bodyQ_ct, bodyQ_bk, bodyQ_rt, bodyQ_ex, endQ_rt, endQ_nx, endQ_ex, mE_eq, mMv_eq, mV, mNoex, p_V, pC, pU, pO, pN, aNil, aCons, p_B', asB_bl, bNot, bAnd, bOr, pIf, pB, p_ch, qv_add, qv_addA, qv_addL, qv_sub, qv_mul, qv_mulL, qv_div, qv_mod, qv_pow, qv_shl, qv_shr, qv_lt, qv_le, qv_gt, qv_ge, qv_neg, qv_eqI, qv_neI, qv_eqB, qv_neB, qv_ix, qv_ixT, qv_ixR, qv_len, qv_lenT, qv_lenR, qv_abs, qv_int, qv_intB, qv_max2, qv_min2, qv_rg1, qv_rg2, qv_items, qv_itemsT, qv_itemsR, qv_lst, qv_lstR, qv_isN0, qv_isNI, qv_isNL, qv_isNT, qv_noN0, qv_noNI, qv_noNL, qv_noNT, pFld, iL, iT, iN, p_E, sc_int, sc_bl, sc_non, eF, eV, esNil, esCons, eLst, eTup, eN, eAddA, eIf, fLst, fSl, oP, fList, fCat, fRep, pF, pLst, pTup, pSl, gN, gT, gsNil, gsCons, bN, lf, bYes, finE, leaf, getS, getP, getFd, setP, setFd, setF, putE, plSlot, asL, setE, toD, frz, frzAll, leafE, wipeE, kids, ex_bind, ex_map, ex_if, ex_some, List.getElem?_cons_zero, List.getElem?_cons_succ, List.set_cons_zero, List.set_cons_succ, List.length_cons, List.length_nil, List.length_map, List.map_cons, List.map_nil, List.cons_append, List.nil_append, Option.bind_some, Option.map_some, Option.bind_none, Option.map_none, Option.some.injEq, exists_eq_left, exists_eq_left', and_true, true_and, Et.n.injEq, Et.o.injEq, Et.fl.injEq, Dt.int.injEq, Dt.bl.injEq, decide_eq_true_eq, decide_eq_false_iff_not, forall_const, if_true, if_false, Bool.false_eq_true, reduceIte, List.replicate_succ, List.replicate_zero, true_implies, false_implies, reduceCtorEq, Fz.ok.injEq, List.cons.injEq, atI_map, List.length_append, snoc_i, fLc, cutD_map, sIx_no, all_sc, map_app, rep_fl, rep_int, intsOf_m, qv_min, qv_max, qv_sum, wp_loop0, sc_lst, sc_tup, sc_ob, mMeth, mMethT, tempOk, eMk, eM, pM, obOk, lentOk, own, owns, Bool.and_true, Bool.true_and, Bool.not_true, Bool.not_false, Bool.not_eq_true, Bool.not_eq_false, Bool.not_eq_eq_eq_not, toDs, Nat.reduceAdd, Nat.reduceLT, List.all_nil, Nat.reduceEqDiff, Nat.reduceSub, Nat.reduceMul, Int.reduceLT, Int.reduceLE, Int.reduceAdd, Int.reduceSub, Int.reduceMul, Int.reduceNeg, Int.reduceToNat, Nat.lt_irrefl, Nat.zero_le, Nat.not_lt_zero, Nat.zero_lt_succ], fun hg => ?_, fun hg => ?_⟩
    · subst hg
      obtain ⟨hf, rfl, hS⟩ := k1 rfl
      cases w1 with
      | true =>
        have wn := @whole_n _ m B t p pl true x p0
        have wy := @whole_y _ m B t p pl x hb p0
        unfold fob at *
        by_cases full : (x : Int) + m.length + p ≤ B.length
        · simp -implicitDefEqProofs (maxSteps := 3000000) only [wp_seq, wp_if, wp_set, wp_ret, wp_drop, wp_app, wp_for, wp_forL, wp_frz, wp_aug, wp_fld, wp_fldA, wp_setL, wp_nil, wp_brk, wp_cont, wp_retN, thenQ_nx, thenQ_rt, thenQ_ex, thenQ_bk, thenQ_ct, setQ_ok, setQ_ex, retQ_ok, retQ_ex, dropQ_ok, dropQ_ex, fldQ_ok, bodyQ_nx, bodyQ_ct, bodyQ_bk, bodyQ_rt, bodyQ_ex, endQ_rt, endQ_nx, endQ_ex, mE_eq, mMv_eq, mV, mNoex, p_V, pC, pU, pO, pN, aNil, aCons, p_B', asB_bl, bNot, bAnd, bOr, pIf, pB, p_ch, qv_add, qv_addA, qv_addL, qv_sub, qv_mul, qv_mulL, qv_div, qv_mod, qv_pow, qv_shl, qv_shr, qv_lt, qv_le, qv_gt, qv_ge, qv_neg, qv_eqI, qv_neI, qv_eqB, qv_neB, qv_ix, qv_ixT, qv_ixR, qv_len, qv_lenT, qv_lenR, qv_abs, qv_int, qv_intB, qv_max2, qv_min2, qv_rg1, qv_rg2, qv_items, qv_itemsT, qv_itemsR, qv_lst, qv_lstR, qv_isN0, qv_isNI, qv_isNL, qv_isNT, qv_noN0, qv_noNI, qv_noNL, qv_noNT, pFld, iL, iT, iN, p_E, sc_int, sc_bl, sc_non, eF, eV, esNil, esCons, eLst, eTup, eN, eAddA, eIf, fLst, fSl, oP, fList, fCat, fRep, pF, pLst, pTup, pSl, gN, gT, gsNil, gsCons, bN, lf, bYes, finE, leaf, getS, getP, getFd, setP, setFd, setF, putE, plSlot, asL, setE, toD, frz, frzAll, leafE, wipeE, kids, ex_bind, ex_map, ex_if, ex_some, List.getElem?_cons_zero, List.getElem?_cons_succ, List.set_cons_zero, List.set_cons_succ, List.length_cons, List.length_nil, List.length_map, List.map_cons, List.map_nil, List.cons_append, List.nil_append, Option.bind_some, Option.map_some, Option.bind_none, Option.map_none, Option.some.injEq, exists_eq_left, exists_eq_left', and_true, true_and, Et.n.injEq, Et.o.injEq, Et.fl.injEq, Dt.int.injEq, Dt.bl.injEq, decide_eq_true_eq, decide_eq_false_iff_not, forall_const, if_true, if_false, Bool.false_eq_true, reduceIte, List.replicate_succ, List.replicate_zero, true_implies, false_implies, reduceCtorEq, Fz.ok.injEq, List.cons.injEq, atI_map, List.length_append, snoc_i, fLc, cutD_map, sIx_no, all_sc, map_app, rep_fl, rep_int, intsOf_m, qv_min, qv_max, qv_sum, wp_loop0, sc_lst, sc_tup, sc_ob, mMeth, mMethT, tempOk, eMk, eM, pM, obOk, lentOk, own, owns, Bool.and_true, Bool.true_and, Bool.not_true, Bool.not_false, Bool.not_eq_true, Bool.not_eq_false, Bool.not_eq_eq_eq_not, toDs, Nat.reduceAdd, Nat.reduceLT, List.all_nil, Nat.reduceEqDiff, Nat.reduceSub, Nat.reduceMul, Int.reduceLT, Int.reduceLE, Int.reduceAdd, Int.reduceSub, Int.reduceMul, Int.reduceNeg, Int.reduceToNat, Nat.lt_irrefl, Nat.zero_le, Nat.not_lt_zero, Nat.zero_lt_succ, wy full, fsE_len]
          refine ⟨by decide, by rw [szD]; omega, _, fsE_app, B.length + 1 - (x + m.length + p.toNat), by omega, fs ++ [(x, (B.drop (x + m.length)).take p.toNat)], x + m.length + p.toNat, false, true, _, ⟨rfl, rfl, by omega, rfl, rfl⟩, by omega, fun _ => ⟨by simp; omega, rfl, fun r z w2 hr => ?_⟩, (fun z => by cases z)⟩
          rw [List.append_assoc]
          exact hS _ _ _ (.went (by omega) hr)
        · simp -implicitDefEqProofs (maxSteps := 3000000) only [wp_seq, wp_if, wp_set, wp_ret, wp_drop, wp_app, wp_for, wp_forL, wp_frz, wp_aug, wp_fld, wp_fldA, wp_setL, wp_nil, wp_brk, wp_cont, wp_retN, thenQ_nx, thenQ_rt, thenQ_ex, thenQ_bk, thenQ_ct, setQ_ok, setQ_ex, retQ_ok, retQ_ex, dropQ_ok, dropQ_ex, fldQ_ok, bodyQ_nx, bodyQ_ct, bodyQ_bk, bodyQ_rt, bodyQ_ex, endQ_rt, endQ_nx, endQ_ex, mE_eq, mMv_eq, mV, mNoex, p_V, pC, pU, pO, pN, aNil, aCons, p_B', asB_bl, bNot, bAnd, bOr, pIf, pB, p_ch, qv_add, qv_addA, qv_addL, qv_sub, qv_mul, qv_mulL, qv_div, qv_mod, qv_pow, qv_shl, qv_shr, qv_lt, qv_le, qv_gt, qv_ge, qv_neg, qv_eqI, qv_neI, qv_eqB, qv_neB, qv_ix, qv_ixT, qv_ixR, qv_len, qv_lenT, qv_lenR, qv_abs, qv_int, qv_intB, qv_max2, qv_min2, qv_rg1, qv_rg2, qv_items, qv_itemsT, qv_itemsR, qv_lst, qv_lstR, qv_isN0, qv_isNI, qv_isNL, qv_isNT, qv_noN0, qv_noNI, qv_noNL, qv_noNT, pFld, iL, iT, iN, p_E, sc_int, sc_bl, sc_non, eF, eV, esNil, esCons, eLst, eTup, eN, eAddA, eIf, fLst, fSl, oP, fList, fCat, fRep, pF, pLst, pTup, pSl, gN, gT, gsNil, gsCons, bN, lf, bYes, finE, leaf, getS, getP, getFd, setP, setFd, setF, putE, plSlot, asL, setE, toD, frz, frzAll, leafE, wipeE, kids, ex_bind, ex_map, ex_if, ex_some, List.getElem?_cons_zero, List.getElem?_cons_succ, List.set_cons_zero, List.set_cons_succ, List.length_cons, List.length_nil, List.length_map, List.map_cons, List.map_nil, List.cons_append, List.nil_append, Option.bind_some, Option.map_some, Option.bind_none, Option.map_none, Option.some.injEq, exists_eq_left, exists_eq_left', and_true, true_and, Et.n.injEq, Et.o.injEq, Et.fl.injEq, Dt.int.injEq, Dt.bl.injEq, decide_eq_true_eq, decide_eq_false_iff_not, forall_const, if_true, if_false, Bool.false_eq_true, reduceIte, List.replicate_succ, List.replicate_zero, true_implies, false_implies, reduceCtorEq, Fz.ok.injEq, List.cons.injEq, atI_map, List.length_append, snoc_i, fLc, cutD_map, sIx_no, all_sc, map_app, rep_fl, rep_int, intsOf_m, qv_min, qv_max, qv_sum, wp_loop0, sc_lst, sc_tup, sc_ob, mMeth, mMethT, tempOk, eMk, eM, pM, obOk, lentOk, own, owns, Bool.and_true, Bool.true_and, Bool.not_true, Bool.not_false, Bool.not_eq_true, Bool.not_eq_false, Bool.not_eq_eq_eq_not, toDs, Nat.reduceAdd, Nat.reduceLT, List.all_nil, Nat.reduceEqDiff, Nat.reduceSub, Nat.reduceMul, Int.reduceLT, Int.reduceLE, Int.reduceAdd, Int.reduceSub, Int.reduceMul, Int.reduceNeg, Int.reduceToNat, Nat.lt_irrefl, Nat.zero_le, Nat.not_lt_zero, Nat.zero_lt_succ, wn (fun _ => by omega)]
          refine ⟨0, by omega, fs, x, true, false, _, ⟨rfl, rfl, rfl, rfl, rfl⟩, hx, (fun z => by cases z), fun _ => ?_⟩
          have := hS [] _ _ (.still hx (by omega))
          rwa [List.append_nil] at this
      | false =>
        obtain ⟨y, w2, el, b0, b1, b2, b3, b4⟩ := look_s (m := m) (B := B) (t := t) (p := p) (pl := pl) (x := x) hm hb h1 h2 (by omega) hx
        have wn := @whole_n _ m B t p pl w2 y p0
        have wy := @whole_y _ m B t p pl y hb p0
        unfold fob at *
        by_cases full : w2 = true ∧ (y : Int) + m.length + p ≤ B.length
        · obtain ⟨rfl, hl⟩ := full
          simp -implicitDefEqProofs (maxSteps := 3000000) only [wp_seq, wp_if, wp_set, wp_ret, wp_drop, wp_app, wp_for, wp_forL, wp_frz, wp_aug, wp_fld, wp_fldA, wp_setL, wp_nil, wp_brk, wp_cont, wp_retN, thenQ_nx, thenQ_rt, thenQ_ex, thenQ_bk, thenQ_ct, setQ_ok, setQ_ex, retQ_ok, retQ_ex, dropQ_ok, dropQ_ex, fldQ_ok, bodyQ_nx, bodyQ_ct, bodyQ_bk, bodyQ_rt, bodyQ_ex, endQ_rt, endQ_nx, endQ_ex, mE_eq, mMv_eq, mV, mNoex, p_V, pC, pU, pO, pN, aNil, aCons, p_B', asB_bl, bNot, bAnd, bOr, pIf, pB, p_ch, qv_add, qv_addA, qv_addL, qv_sub, qv_mul, qv_mulL, qv_div, qv_mod, qv_pow, qv_shl, qv_shr, qv_lt, qv_le, qv_gt, qv_ge, qv_neg, qv_eqI, qv_neI, qv_eqB, qv_neB, qv_ix, qv_ixT, qv_ixR, qv_len, qv_lenT, qv_lenR, qv_abs, qv_int, qv_intB, qv_max2, qv_min2, qv_rg1, qv_rg2, qv_items, qv_itemsT, qv_itemsR, qv_lst, qv_lstR, qv_isN0, qv_isNI, qv_isNL, qv_isNT, qv_noN0, qv_noNI, qv_noNL, qv_noNT, pFld, iL, iT, iN, p_E, sc_int, sc_bl, sc_non, eF, eV, esNil, esCons, eLst, eTup, eN, eAddA, eIf, fLst, fSl, oP, fList, fCat, fRep, pF, pLst, pTup, pSl, gN, gT, gsNil, gsCons, bN, lf, bYes, finE, leaf, getS, getP, getFd, setP, setFd, setF, putE, plSlot, asL, setE, toD, frz, frzAll, leafE, wipeE, kids, ex_bind, ex_map, ex_if, ex_some, List.getElem?_cons_zero, List.getElem?_cons_succ, List.set_cons_zero, List.set_cons_succ, List.length_cons, List.length_nil, List.length_map, List.map_cons, List.map_nil, List.cons_append, List.nil_append, Option.bind_some, Option.map_some, Option.bind_none, Option.map_none, Option.some.injEq, exists_eq_left, exists_eq_left', and_true, true_and, Et.n.injEq, Et.o.injEq, Et.fl.injEq, Dt.int.injEq, Dt.bl.injEq, decide_eq_true_eq, decide_eq_false_iff_not, forall_const, if_true, if_false, Bool.false_eq_true, reduceIte, List.replicate_succ, List.replicate_zero, true_implies, false_implies, reduceCtorEq, Fz.ok.injEq, List.cons.injEq, atI_map, List.length_append, snoc_i, fLc, cutD_map, sIx_no, all_sc, map_app, rep_fl, rep_int, intsOf_m, qv_min, qv_max, qv_sum, wp_loop0, sc_lst, sc_tup, sc_ob, mMeth, mMethT, tempOk, eMk, eM, pM, obOk, lentOk, own, owns, Bool.and_true, Bool.true_and, Bool.not_true, Bool.not_false, Bool.not_eq_true, Bool.not_eq_false, Bool.not_eq_eq_eq_not, toDs, Nat.reduceAdd, Nat.reduceLT, List.all_nil, Nat.reduceEqDiff, Nat.reduceSub, Nat.reduceMul, Int.reduceLT, Int.reduceLE, Int.reduceAdd, Int.reduceSub, Int.reduceMul, Int.reduceNeg, Int.reduceToNat, Nat.lt_irrefl, Nat.zero_le, Nat.not_lt_zero, Nat.zero_lt_succ, el, wy hl, fsE_len]
          have b1' := b1.1
          refine ⟨by decide, by rw [szD]; omega, _, fsE_app, B.length + 1 - (y + m.length + p.toNat), by omega, fs ++ [(y, (B.drop (y + m.length)).take p.toNat)], y + m.length + p.toNat, false, true, _, ⟨rfl, rfl, by omega, rfl, rfl⟩, by omega, fun _ => ⟨by simp; omega, rfl, fun r z w2 hr => ?_⟩, (fun z => by cases z)⟩
          rw [List.append_assoc]
          exact hS _ _ _ (.yes b0 b2 (b3 rfl).2 (by omega) hr)
        · have no : w2 = true → (B.length : Int) < y + m.length + p := fun z => by
            rcases Int.lt_or_le (B.length : Int) (y + m.length + p) with c | c
            · exact c
            · exact absurd ⟨z, c⟩ full
          simp -implicitDefEqProofs (maxSteps := 3000000) only [wp_seq, wp_if, wp_set, wp_ret, wp_drop, wp_app, wp_for, wp_forL, wp_frz, wp_aug, wp_fld, wp_fldA, wp_setL, wp_nil, wp_brk, wp_cont, wp_retN, thenQ_nx, thenQ_rt, thenQ_ex, thenQ_bk, thenQ_ct, setQ_ok, setQ_ex, retQ_ok, retQ_ex, dropQ_ok, dropQ_ex, fldQ_ok, bodyQ_nx, bodyQ_ct, bodyQ_bk, bodyQ_rt, bodyQ_ex, endQ_rt, endQ_nx, endQ_ex, mE_eq, mMv_eq, mV, mNoex, p_V, pC, pU, pO, pN, aNil, aCons, p_B', asB_bl, bNot, bAnd, bOr, pIf, pB, p_ch, qv_add, qv_addA, qv_addL, qv_sub, qv_mul, qv_mulL, qv_div, qv_mod, qv_pow, qv_shl, qv_shr, qv_lt, qv_le, qv_gt, qv_ge, qv_neg, qv_eqI, qv_neI, qv_eqB, qv_neB, qv_ix, qv_ixT, qv_ixR, qv_len, qv_lenT, qv_lenR, qv_abs, qv_int, qv_intB, qv_max2, qv_min2, qv_rg1, qv_rg2, qv_items, qv_itemsT, qv_itemsR, qv_lst, qv_lstR, qv_isN0, qv_isNI, qv_isNL, qv_isNT, qv_noN0, qv_noNI, qv_noNL, qv_noNT, pFld, iL, iT, iN, p_E, sc_int, sc_bl, sc_non, eF, eV, esNil, esCons, eLst, eTup, eN, eAddA, eIf, fLst, fSl, oP, fList, fCat, fRep, pF, pLst, pTup, pSl, gN, gT, gsNil, gsCons, bN, lf, bYes, finE, leaf, getS, getP, getFd, setP, setFd, setF, putE, plSlot, asL, setE, toD, frz, frzAll, leafE, wipeE, kids, ex_bind, ex_map, ex_if, ex_some, List.getElem?_cons_zero, List.getElem?_cons_succ, List.set_cons_zero, List.set_cons_succ, List.length_cons, List.length_nil, List.length_map, List.map_cons, List.map_nil, List.cons_append, List.nil_append, Option.bind_some, Option.map_some, Option.bind_none, Option.map_none, Option.some.injEq, exists_eq_left, exists_eq_left', and_true, true_and, Et.n.injEq, Et.o.injEq, Et.fl.injEq, Dt.int.injEq, Dt.bl.injEq, decide_eq_true_eq, decide_eq_false_iff_not, forall_const, if_true, if_false, Bool.false_eq_true, reduceIte, List.replicate_succ, List.replicate_zero, true_implies, false_implies, reduceCtorEq, Fz.ok.injEq, List.cons.injEq, atI_map, List.length_append, snoc_i, fLc, cutD_map, sIx_no, all_sc, map_app, rep_fl, rep_int, intsOf_m, qv_min, qv_max, qv_sum, wp_loop0, sc_lst, sc_tup, sc_ob, mMeth, mMethT, tempOk, eMk, eM, pM, obOk, lentOk, own, owns, Bool.and_true, Bool.true_and, Bool.not_true, Bool.not_false, Bool.not_eq_true, Bool.not_eq_false, Bool.not_eq_eq_eq_not, toDs, Nat.reduceAdd, Nat.reduceLT, List.all_nil, Nat.reduceEqDiff, Nat.reduceSub, Nat.reduceMul, Int.reduceLT, Int.reduceLE, Int.reduceAdd, Int.reduceSub, Int.reduceMul, Int.reduceNeg, Int.reduceToNat, Nat.lt_irrefl, Nat.zero_le, Nat.not_lt_zero, Nat.zero_lt_succ, el, wn no]
          refine ⟨0, by omega, fs, y, w2, false, _, ⟨rfl, rfl, rfl, rfl, rfl⟩, b1.1, (fun z => by cases z), fun _ => ?_⟩
          have := hS [] y w2 (by
            cases w2 with
            | false => exact .no b0 b1 b2 (b4 rfl)
            | true => exact .part b0 b2 (b3 rfl).2 (b3 rfl).1 (by have := no rfl; omega))
          rwa [List.append_nil] at this
    · subst hg
      unfold fob
      simp -implicitDefEqProofs (maxSteps := 3000000) only [wp_seq, wp_if, wp_set, wp_ret, wp_drop, wp_app, wp_for, wp_forL, wp_frz, wp_aug, wp_fld, wp_fldA, wp_setL, wp_nil, wp_brk, wp_cont, wp_retN, thenQ_nx, thenQ_rt, thenQ_ex, thenQ_bk, thenQ_ct, setQ_ok, setQ_ex, retQ_ok, retQ_ex, dropQ_ok, dropQ_ex, fldQ_ok, bodyQ_nx, bodyQ_ct, bodyQ_bk, bodyQ_rt, bodyQ_ex, endQ_rt, endQ_nx, endQ_ex, mE_eq, mMv_eq, mV, mNoex, p_V, pC, pU, pO, pN, aNil, aCons, p_B', asB_bl, bNot, bAnd, bOr, pIf, pB, p_ch, qv_add, qv_addA, qv_addL, qv_sub, qv_mul, qv_mulL, qv_div, qv_mod, qv_pow, qv_shl, qv_shr, qv_lt, qv_le, qv_gt, qv_ge, qv_neg, qv_eqI, qv_neI, qv_eqB, qv_neB, qv_ix, qv_ixT, qv_ixR, qv_len, qv_lenT, qv_lenR, qv_abs, qv_int, qv_intB, qv_max2, qv_min2, qv_rg1, qv_rg2, qv_items, qv_itemsT, qv_itemsR, qv_lst, qv_lstR, qv_isN0, qv_isNI, qv_isNL, qv_isNT, qv_noN0, qv_noNI, qv_noNL, qv_noNT, pFld, iL, iT, iN, p_E, sc_int, sc_bl, sc_non, eF, eV, esNil, esCons, eLst, eTup, eN, eAddA, eIf, fLst, fSl, oP, fList, fCat, fRep, pF, pLst, pTup, pSl, gN, gT, gsNil, gsCons, bN, lf, bYes, finE, leaf, getS, getP, getFd, setP, setFd, setF, putE, plSlot, asL, setE, toD, frz, frzAll, leafE, wipeE, kids, ex_bind, ex_map, ex_if, ex_some, List.getElem?_cons_zero, List.getElem?_cons_succ, List.set_cons_zero, List.set_cons_succ, List.length_cons, List.length_nil, List.length_map, List.map_cons, List.map_nil, List.cons_append, List.nil_append, Option.bind_some, Option.map_some, Option.bind_none, Option.map_none, Option.some.injEq, exists_eq_left, exists_eq_left', and_true, true_and, Et.n.injEq, Et.o.injEq, Et.fl.injEq, Dt.int.injEq, Dt.bl.injEq, decide_eq_true_eq, decide_eq_false_iff_not, forall_const, if_true, if_false, Bool.false_eq_true, reduceIte, List.replicate_succ, List.replicate_zero, true_implies, false_implies, reduceCtorEq, Fz.ok.injEq, List.cons.injEq, atI_map, List.length_append, snoc_i, fLc, cutD_map, sIx_no, all_sc, map_app, rep_fl, rep_int, intsOf_m, qv_min, qv_max, qv_sum, wp_loop0, sc_lst, sc_tup, sc_ob, mMeth, mMethT, tempOk, eMk, eM, pM, obOk, lentOk, own, owns, Bool.and_true, Bool.true_and, Bool.not_true, Bool.not_false, Bool.not_eq_true, Bool.not_eq_false, Bool.not_eq_eq_eq_not, toDs, Nat.reduceAdd, Nat.reduceLT, List.all_nil, Nat.reduceEqDiff, Nat.reduceSub, Nat.reduceMul, Int.reduceLT, Int.reduceLE, Int.reduceAdd, Int.reduceSub, Int.reduceMul, Int.reduceNeg, Int.reduceToNat, Nat.lt_irrefl, Nat.zero_le, Nat.not_lt_zero, Nat.zero_lt_succ]
      rw [cutD_E (by omega) (by omega)]
      exact ⟨allB_sc (fun x hx => hb x (List.mem_of_mem_drop hx)), fs, x, w1, ⟨rfl, by rw [Int.toNat_natCast]; rfl⟩, k2 rfl, hx⟩)
  exact ⟨fs, a, w', e, a1, a2⟩
/-! the search, part by part -/
theorem hit_drop {B m : List Dt} {t : Int} {b y : Nat} : hit (B.drop b) m t y ↔ hit B m t (b + y) := by
  unfold hit
  rw [List.drop_drop]
theorem srch_shift {B m : List Dt} {t : Int} {p b : Nat} (hb : b ≤ B.length) : ∀ {x : Nat} {w : Bool} {fs : List (Nat × List Dt)} {z : Nat} {w' : Bool}, Srch (B.drop b) m t p x w fs z w' → Srch B m t p (b + x) w (fs.map fun f => (b + f.1, f.2)) (b + z) w' := by
  intro x w fs z w' h
  have ld : (B.drop b).length = B.length - b := List.length_drop
  have nh : ∀ {x a : Nat}, (∀ y, x ≤ y → y < a → ¬ hit (B.drop b) m t y) → ∀ y, b + x ≤ y → y < b + a → ¬ hit B m t y := fun {x a} h y h1 h2 q => by
    have := h (y - b) (by omega) (by omega)
    rw [hit_drop, show b + (y - b) = y by omega] at this
    exact this q
  induction h with
  | no a1 a2 a3 a4 => exact .no (by omega) ⟨by omega, by omega⟩ (nh a3) (by omega)
  | part a1 a2 a3 a4 a5 => exact .part (by omega) (nh a2) (hit_drop.mp a3) (by omega) (by omega)
  | @yes x a fs z w a1 a2 a3 a4 a5 ih =>
    have e : (B.drop b).drop (a + m.length) = B.drop (b + a + m.length) := by rw [List.drop_drop, Nat.add_assoc]
    rw [List.map_cons]
    show Srch B m t p _ _ ((b + a, ((B.drop b).drop (a + m.length)).take p) :: _) _ _
    rw [e]
    exact .yes (by omega) (nh a2) (hit_drop.mp a3) (by omega) (by rw [show b + a + m.length + p = b + (a + m.length + p) by omega]; exact ih)
  | still a1 a2 => exact .still (by omega) (by omega)
  | @went x fs z w a1 a2 ih =>
    have e : (B.drop b).drop (x + m.length) = B.drop (b + x + m.length) := by rw [List.drop_drop, Nat.add_assoc]
    rw [List.map_cons]
    show Srch B m t p _ _ ((b + x, ((B.drop b).drop (x + m.length)).take p) :: _) _ _
    rw [e]
    exact .went (by omega) (by rw [show b + x + m.length + p = b + (x + m.length + p) by omega]; exact ih)
theorem srch_back {B m : List Dt} {t : Int} {p x a : Nat} {fs : List (Nat × List Dt)} {z : Nat} {w : Bool} (h : Srch B m t p a false fs z w) (hx : x ≤ a) (hn : ∀ y, x ≤ y → y < a → ¬ hit B m t y) (hf : a = x ∨ a + m.length ≤ B.length + 1) : Srch B m t p x false fs z w := by
  have nh : ∀ {c : Nat}, (∀ y, a ≤ y → y < c → ¬ hit B m t y) → ∀ y, x ≤ y → y < c → ¬ hit B m t y := fun {c} h y h1 h2 => by
    rcases Nat.lt_or_ge y a with q | q
    · exact hn y h1 q
    · exact h y q h2
  cases h with
  | no a1 a2 a3 a4 => exact .no (by omega) ⟨a2.1, by omega⟩ (nh a3) a4
  | part a1 a2 a3 a4 a5 => exact .part (by omega) (nh a2) a3 a4 a5
  | yes a1 a2 a3 a4 a5 => exact .yes (by omega) (nh a2) a3 a4 a5
theorem win_app {B C : List Dt} {y n : Nat} (h : y + n ≤ B.length) : ((B ++ C).drop y).take n = (B.drop y).take n := by
  rw [List.drop_append_of_le_length (by omega), List.take_append_of_le_length (by rw [List.length_drop]; omega)]
theorem hit_app {B C m : List Dt} {t : Int} {y : Nat} (h : y + m.length ≤ B.length) : hit (B ++ C) m t y ↔ hit B m t y := by
  unfold hit
  rw [win_app h]
/-- what was found before, and what is found behind it -/
theorem srch_more {B C m : List Dt} {t : Int} {p : Nat} : ∀ {x : Nat} {w0 : Bool} {fs : List (Nat × List Dt)} {b : Nat} {w : Bool}, Srch B m t p x w0 fs b w → ∀ {gs : List (Nat × List Dt)} {z : Nat} {w' : Bool}, Srch (B ++ C) m t p b w gs z w' → Srch (B ++ C) m t p x w0 (fs ++ gs) z w' := by
  intro x w0 fs b w h
  have ln : (B ++ C).length = B.length + C.length := List.length_append
  induction h with
  | no a1 a2 a3 a4 =>
    rename_i x a
    intro gs z w' k
    refine srch_back k a1 (fun y h1 h2 q => a3 y h1 h2 ((hit_app (by omega)).mp q)) (by omega)
  | part a1 a2 a3 a4 a5 =>
    rename_i x a
    intro gs z w' k
    have nh : ∀ y, x ≤ y → y < a → ¬ hit (B ++ C) m t y := fun y h1 h2 q => a2 y h1 h2 ((hit_app (by omega)).mp q)
    cases k with
    | still k1 k2 => exact .part a1 nh ((hit_app a4).mpr a3) (by omega) k2
    | went k1 k2 => exact .yes a1 nh ((hit_app a4).mpr a3) k1 k2
  | @yes x a fs z w a1 a2 a3 a4 a5 ih =>
    intro gs z' w' k
    have nh : ∀ y, x ≤ y → y < a → ¬ hit (B ++ C) m t y := fun y h1 h2 q => a2 y h1 h2 ((hit_app (by omega)).mp q)
    rw [← win_app (C := C) (n := p) (y := a + m.length) (by omega), List.cons_append]
    exact .yes a1 nh ((hit_app (by omega)).mpr a3) (by omega) (ih k)
  | still a1 a2 =>
    intro gs z w' k
    exact k
  | @went x fs z w a1 a2 ih =>
    intro gs z' w' k
    rw [← win_app (C := C) (n := p) (y := x + m.length) (by omega), List.cons_append]
    exact .went (by omega) (ih k)
theorem srch_end {B m : List Dt} {t : Int} {p : Nat} : ∀ {x : Nat} {w0 : Bool} {fs : List (Nat × List Dt)} {b : Nat} {w : Bool}, Srch B m t p x w0 fs b w → b ≤ B.length := by
  intro x w0 fs b w h
  induction h with
  | no a1 a2 a3 a4 => exact a2.1
  | part a1 a2 a3 a4 a5 => omega
  | yes _ _ _ _ _ ih => exact ih
  | still a1 a2 => exact a1
  | went _ _ ih => exact ih
/-- a step of the search that is known -/
theorem srch_one {B m : List Dt} {t : Int} {p e q : Nat} {fs : List (Nat × List Dt)} {b : Nat} {w : Bool} (h : Srch B m t p e false fs b w) (hq : e ≤ q) (hn : ∀ y, e ≤ y → y < q → ¬ hit B m t y) (hh : hit B m t q) (hl : q + m.length + p ≤ B.length) : ∃ gs, fs = (q, (B.drop (q + m.length)).take p) :: gs ∧ Srch B m t p (q + m.length + p) false gs b w := by
  cases h with
  | no a1 a2 a3 a4 => exact absurd hh (a3 q hq (by omega))
  | part a1 a2 a3 a4 a5 =>
    rcases Nat.lt_trichotomy b q with c | c | c
    · exact absurd a3 (hn b a1 c)
    · subst c; omega
    · exact absurd hh (a2 q hq c)
  | yes a1 a2 a3 a4 a5 =>
    rename_i a gs
    rcases Nat.lt_trichotomy a q with c | c | c
    · exact absurd a3 (hn a a1 c)
    · subst c; exact ⟨gs, rfl, a5⟩
    · exact absurd hh (a2 q hq c)
theorem srch_none {B m : List Dt} {t : Int} {p e : Nat} {fs : List (Nat × List Dt)} {b : Nat} {w : Bool} (h : Srch B m t p e false fs b w) (hn : ∀ y, e ≤ y → y + m.length ≤ B.length → ¬ hit B m t y) : fs = [] := by
  cases h with
  | no a1 a2 a3 a4 => rfl
  | part a1 a2 a3 a4 a5 => rfl
  | yes a1 a2 a3 a4 a5 => exact absurd a3 (hn _ a1 (by omega))
end T32
namespace T32
open PySem PySem.Spec PyProof.Rows L2 Qs
variable [CTab]
abbrev di (xs : List Int) : Dt := .lst (xs.map .int)
theorem draws_ok (ns : List Int) (hn : ns.length ≤ 63) : ∃ D : List Int, sem_law_draws [.o (.rl (ns.map .int))] = some (.ok (.fl (D.map .int)) [.o (.rl (ns.map .int))]) := by
  obtain ⟨z, e, D, rfl⟩ := fn_wp (pb := [false]) (n := 6) (f := c_law_draws) (es := [.o (.rl (ns.map .int))]) (R := fun z => ∃ D : List Int, z = .ok (.fl (D.map .int)) [.o (.rl (ns.map .int))]) rfl (by
    unfold c_law_draws
    simp -implicitDefEqProofs (maxSteps := 3000000) only [wp_seq, wp_if, wp_set, wp_ret, wp_drop, wp_app, wp_for, wp_forL, wp_frz, wp_aug, wp_fld, wp_fldA, wp_setL, wp_nil, wp_brk, wp_cont, wp_retN, thenQ_nx, thenQ_rt, thenQ_ex, thenQ_bk, thenQ_ct, setQ_ok, setQ_ex, retQ_ok, retQ_ex, dropQ_ok, dropQ_ex, fldQ_ok, bodyQ_nx, bodyQ_ct, bodyQ_bk, bodyQ_rt, bodyQ_ex, endQ_rt, endQ_nx, endQ_ex, mE_eq, mMv_eq, mV, mNoex, p_V, pC, pU, pO, pN, aNil, aCons, p_B', asB_bl, bNot, bAnd, bOr, pIf, pB, p_ch, qv_add, qv_addA, qv_addL, qv_sub, qv_mul, qv_mulL, qv_div, qv_mod, qv_pow, qv_shl, qv_shr, qv_lt, qv_le, qv_gt, qv_ge, qv_neg, qv_eqI, qv_neI, qv_eqB, qv_neB, qv_ix, qv_ixT, qv_ixR, qv_len, qv_lenT, qv_lenR, qv_abs, qv_int, qv_intB, qv_max2, qv_min2, qv_rg1, qv_rg2, qv_items, qv_itemsT, qv_itemsR, qv_lst, qv_lstR, qv_isN0, qv_isNI, qv_isNL, qv_isNT, qv_noN0, qv_noNI, qv_noNL, qv_noNT, pFld, iL, iT, iN, p_E, sc_int, sc_bl, sc_non, eF, eV, esNil, esCons, eLst, eTup, eN, eAddA, eIf, fLst, fSl, oP, fList, fCat, fRep, pF, pLst, pTup, pSl, gN, gT, gsNil, gsCons, bN, lf, bYes, finE, leaf, getS, getP, getFd, setP, setFd, setF, putE, plSlot, lenE, appE, asL, setE, toD, frz, frzAll, leafE, wipeE, kids, ex_bind, ex_map, ex_if, ex_some, List.getElem?_cons_zero, List.getElem?_cons_succ, List.set_cons_zero, List.set_cons_succ, List.length_cons, List.length_nil, List.length_map, List.map_cons, List.map_nil, List.cons_append, List.nil_append, Option.bind_some, Option.map_some, Option.bind_none, Option.map_none, Option.some.injEq, exists_eq_left, exists_eq_left', and_true, true_and, Et.n.injEq, Et.o.injEq, Et.fl.injEq, Dt.int.injEq, Dt.bl.injEq, decide_eq_true_eq, decide_eq_false_iff_not, forall_const, if_true, if_false, Bool.false_eq_true, reduceIte, List.replicate_succ, List.replicate_zero, true_implies, false_implies, reduceCtorEq, Fz.ok.injEq, List.cons.injEq, atI_map, List.length_append, appE_fl, snoc_i, fLc, cutD_map, sIx_no, all_sc, map_app, rep_fl, rep_int, intsOf_m, qv_min, qv_max, qv_sum, wp_loop0, sc_lst, sc_tup, sc_ob, mMeth, mMethT, tempOk, eMk, eM, pM, obOk, lentOk, own, owns, Bool.and_true, Bool.true_and, Bool.not_true, Bool.not_false, Bool.not_eq_true, Bool.not_eq_false, Bool.not_eq_eq_eq_not]
    refine ⟨by decide, by decide, by decide, by split <;> omega, ?_⟩
    refine wp_range (fun i ρ => ∃ (D : List Int) (a b c d : Option Et), ρ = [some (.o (.rl (ns.map .int))), some (.fl (D.map .int)), a, b, c, d] ∧ D.length ≤ 60 * i) ⟨[], none, none, none, none, rfl, by simp⟩ ?_ ?_
    · rintro i ρ hi ⟨D, a, b, c, d, rfl, hD⟩
      have hi2 : i < ns.length ∧ i < 63 := by split at hi <;> omega
      simp -implicitDefEqProofs (maxSteps := 3000000) only [wp_seq, wp_if, wp_set, wp_ret, wp_drop, wp_app, wp_for, wp_forL, wp_frz, wp_aug, wp_fld, wp_fldA, wp_setL, wp_nil, wp_brk, wp_cont, wp_retN, thenQ_nx, thenQ_rt, thenQ_ex, thenQ_bk, thenQ_ct, setQ_ok, setQ_ex, retQ_ok, retQ_ex, dropQ_ok, dropQ_ex, fldQ_ok, bodyQ_nx, bodyQ_ct, bodyQ_bk, bodyQ_rt, bodyQ_ex, endQ_rt, endQ_nx, endQ_ex, mE_eq, mMv_eq, mV, mNoex, p_V, pC, pU, pO, pN, aNil, aCons, p_B', asB_bl, bNot, bAnd, bOr, pIf, pB, p_ch, qv_add, qv_addA, qv_addL, qv_sub, qv_mul, qv_mulL, qv_div, qv_mod, qv_pow, qv_shl, qv_shr, qv_lt, qv_le, qv_gt, qv_ge, qv_neg, qv_eqI, qv_neI, qv_eqB, qv_neB, qv_ix, qv_ixT, qv_ixR, qv_len, qv_lenT, qv_lenR, qv_abs, qv_int, qv_intB, qv_max2, qv_min2, qv_rg1, qv_rg2, qv_items, qv_itemsT, qv_itemsR, qv_lst, qv_lstR, qv_isN0, qv_isNI, qv_isNL, qv_isNT, qv_noN0, qv_noNI, qv_noNL, qv_noNT, pFld, iL, iT, iN, p_E, sc_int, sc_bl, sc_non, eF, eV, esNil, esCons, eLst, eTup, eN, eAddA, eIf, fLst, fSl, oP, fList, fCat, fRep, pF, pLst, pTup, pSl, gN, gT, gsNil, gsCons, bN, lf, bYes, finE, leaf, getS, getP, getFd, setP, setFd, setF, putE, plSlot, lenE, appE, asL, setE, toD, frz, frzAll, leafE, wipeE, kids, ex_bind, ex_map, ex_if, ex_some, List.getElem?_cons_zero, List.getElem?_cons_succ, List.set_cons_zero, List.set_cons_succ, List.length_cons, List.length_nil, List.length_map, List.map_cons, List.map_nil, List.cons_append, List.nil_append, Option.bind_some, Option.map_some, Option.bind_none, Option.map_none, Option.some.injEq, exists_eq_left, exists_eq_left', and_true, true_and, Et.n.injEq, Et.o.injEq, Et.fl.injEq, Dt.int.injEq, Dt.bl.injEq, decide_eq_true_eq, decide_eq_false_iff_not, forall_const, if_true, if_false, Bool.false_eq_true, reduceIte, List.replicate_succ, List.replicate_zero, true_implies, false_implies, reduceCtorEq, Fz.ok.injEq, List.cons.injEq, atI_map, List.length_append, appE_fl, snoc_i, fLc, cutD_map, sIx_no, all_sc, map_app, rep_fl, rep_int, intsOf_m, qv_min, qv_max, qv_sum, wp_loop0, sc_lst, sc_tup, sc_ob, mMeth, mMethT, tempOk, eMk, eM, pM, obOk, lentOk, own, owns, Bool.and_true, Bool.true_and, Bool.not_true, Bool.not_false, Bool.not_eq_true, Bool.not_eq_false, Bool.not_eq_eq_eq_not]
      obtain ⟨x, hx, -, -⟩ := atI_some (xs := ns) (i := 0 + (i : Int) * 1) (by omega) (by omega)
      have sz : sizeLine = 16777216 := by decide
      refine ⟨by decide, x, hx, by decide, by decide, fun h => ?_, fun h => ?_⟩
      · refine ⟨by decide, wp_range (fun t ρ => ∃ (D : List Int) (r : Int) (a b : Option Et), ρ = [some (.o (.rl (ns.map .int))), some (.fl (D.map .int)), some (.n (.int (0 + (i : Int) * 1))), some (.n (.int r)), a, b] ∧ D.length ≤ 60 * i + t) ⟨D, _, c, d, rfl, by omega⟩ ?_ ?_⟩
        · rintro t ρ ht ⟨D, r, a, b, rfl, hD⟩
          simp -implicitDefEqProofs (maxSteps := 3000000) only [wp_seq, wp_if, wp_set, wp_ret, wp_drop, wp_app, wp_for, wp_forL, wp_frz, wp_aug, wp_fld, wp_fldA, wp_setL, wp_nil, wp_brk, wp_cont, wp_retN, thenQ_nx, thenQ_rt, thenQ_ex, thenQ_bk, thenQ_ct, setQ_ok, setQ_ex, retQ_ok, retQ_ex, dropQ_ok, dropQ_ex, fldQ_ok, bodyQ_nx, bodyQ_ct, bodyQ_bk, bodyQ_rt, bodyQ_ex, endQ_rt, endQ_nx, endQ_ex, mE_eq, mMv_eq, mV, mNoex, p_V, pC, pU, pO, pN, aNil, aCons, p_B', asB_bl, bNot, bAnd, bOr, pIf, pB, p_ch, qv_add, qv_addA, qv_addL, qv_sub, qv_mul, qv_mulL, qv_div, qv_mod, qv_pow, qv_shl, qv_shr, qv_lt, qv_le, qv_gt, qv_ge, qv_neg, qv_eqI, qv_neI, qv_eqB, qv_neB, qv_ix, qv_ixT, qv_ixR, qv_len, qv_lenT, qv_lenR, qv_abs, qv_int, qv_intB, qv_max2, qv_min2, qv_rg1, qv_rg2, qv_items, qv_itemsT, qv_itemsR, qv_lst, qv_lstR, qv_isN0, qv_isNI, qv_isNL, qv_isNT, qv_noN0, qv_noNI, qv_noNL, qv_noNT, pFld, iL, iT, iN, p_E, sc_int, sc_bl, sc_non, eF, eV, esNil, esCons, eLst, eTup, eN, eAddA, eIf, fLst, fSl, oP, fList, fCat, fRep, pF, pLst, pTup, pSl, gN, gT, gsNil, gsCons, bN, lf, bYes, finE, leaf, getS, getP, getFd, setP, setFd, setF, putE, plSlot, lenE, appE, asL, setE, toD, frz, frzAll, leafE, wipeE, kids, ex_bind, ex_map, ex_if, ex_some, List.getElem?_cons_zero, List.getElem?_cons_succ, List.set_cons_zero, List.set_cons_succ, List.length_cons, List.length_nil, List.length_map, List.map_cons, List.map_nil, List.cons_append, List.nil_append, Option.bind_some, Option.map_some, Option.bind_none, Option.map_none, Option.some.injEq, exists_eq_left, exists_eq_left', and_true, true_and, Et.n.injEq, Et.o.injEq, Et.fl.injEq, Dt.int.injEq, Dt.bl.injEq, decide_eq_true_eq, decide_eq_false_iff_not, forall_const, if_true, if_false, Bool.false_eq_true, reduceIte, List.replicate_succ, List.replicate_zero, true_implies, false_implies, reduceCtorEq, Fz.ok.injEq, List.cons.injEq, atI_map, List.length_append, appE_fl, snoc_i, fLc, cutD_map, sIx_no, all_sc, map_app, rep_fl, rep_int, intsOf_m, qv_min, qv_max, qv_sum, wp_loop0, sc_lst, sc_tup, sc_ob, mMeth, mMethT, tempOk, eMk, eM, pM, obOk, lentOk, own, owns, Bool.and_true, Bool.true_and, Bool.not_true, Bool.not_false, Bool.not_eq_true, Bool.not_eq_false, Bool.not_eq_eq_eq_not]
          refine ⟨by simp, fun h => ⟨by decide, by omega, by decide, by decide, _, _, _, _, ⟨rfl, rfl, rfl, rfl⟩, by simp; omega⟩, fun h => ⟨_, _, _, _, ⟨rfl, rfl, rfl, rfl⟩, by omega⟩⟩
        · rintro ρ ⟨D, r, a, b, rfl, hD⟩
          exact ⟨D, _, _, _, _, rfl, by omega⟩
      · refine ⟨cMul_r (by decide), cMul_r (by decide), by decide, by simp, cMul_r (by decide), cMul_l (by decide), by decide, by simp, by decide, by omega, by decide, by decide, by omega, ?_⟩
        exact ⟨_, _, _, _, _, ⟨rfl, rfl, rfl, rfl, rfl⟩, by simp; omega⟩
    · rintro ρ ⟨D, a, b, c, d, rfl, hD⟩
      simp -implicitDefEqProofs (maxSteps := 3000000) only [wp_seq, wp_if, wp_set, wp_ret, wp_drop, wp_app, wp_for, wp_forL, wp_frz, wp_aug, wp_fld, wp_fldA, wp_setL, wp_nil, wp_brk, wp_cont, wp_retN, thenQ_nx, thenQ_rt, thenQ_ex, thenQ_bk, thenQ_ct, setQ_ok, setQ_ex, retQ_ok, retQ_ex, dropQ_ok, dropQ_ex, fldQ_ok, bodyQ_nx, bodyQ_ct, bodyQ_bk, bodyQ_rt, bodyQ_ex, endQ_rt, endQ_nx, endQ_ex, mE_eq, mMv_eq, mV, mNoex, p_V, pC, pU, pO, pN, aNil, aCons, p_B', asB_bl, bNot, bAnd, bOr, pIf, pB, p_ch, qv_add, qv_addA, qv_addL, qv_sub, qv_mul, qv_mulL, qv_div, qv_mod, qv_pow, qv_shl, qv_shr, qv_lt, qv_le, qv_gt, qv_ge, qv_neg, qv_eqI, qv_neI, qv_eqB, qv_neB, qv_ix, qv_ixT, qv_ixR, qv_len, qv_lenT, qv_lenR, qv_abs, qv_int, qv_intB, qv_max2, qv_min2, qv_rg1, qv_rg2, qv_items, qv_itemsT, qv_itemsR, qv_lst, qv_lstR, qv_isN0, qv_isNI, qv_isNL, qv_isNT, qv_noN0, qv_noNI, qv_noNL, qv_noNT, pFld, iL, iT, iN, p_E, sc_int, sc_bl, sc_non, eF, eV, esNil, esCons, eLst, eTup, eN, eAddA, eIf, fLst, fSl, oP, fList, fCat, fRep, pF, pLst, pTup, pSl, gN, gT, gsNil, gsCons, bN, lf, bYes, finE, leaf, getS, getP, getFd, setP, setFd, setF, putE, plSlot, lenE, appE, asL, setE, toD, frz, frzAll, leafE, wipeE, kids, ex_bind, ex_map, ex_if, ex_some, List.getElem?_cons_zero, List.getElem?_cons_succ, List.set_cons_zero, List.set_cons_succ, List.length_cons, List.length_nil, List.length_map, List.map_cons, List.map_nil, List.cons_append, List.nil_append, Option.bind_some, Option.map_some, Option.bind_none, Option.map_none, Option.some.injEq, exists_eq_left, exists_eq_left', and_true, true_and, Et.n.injEq, Et.o.injEq, Et.fl.injEq, Dt.int.injEq, Dt.bl.injEq, decide_eq_true_eq, decide_eq_false_iff_not, forall_const, if_true, if_false, Bool.false_eq_true, reduceIte, List.replicate_succ, List.replicate_zero, true_implies, false_implies, reduceCtorEq, Fz.ok.injEq, List.cons.injEq, atI_map, List.length_append, appE_fl, snoc_i, fLc, cutD_map, sIx_no, all_sc, map_app, rep_fl, rep_int, intsOf_m, qv_min, qv_max, qv_sum, wp_loop0, sc_lst, sc_tup, sc_ob, mMeth, mMethT, tempOk, eMk, eM, pM, obOk, lentOk, own, owns, Bool.and_true, Bool.true_and, Bool.not_true, Bool.not_false, Bool.not_eq_true, Bool.not_eq_false, Bool.not_eq_eq_eq_not]
      exact ⟨D, rfl⟩)
  exact ⟨D, e⟩
theorem mix_ok (D : List Int) (k m : Int) (hm : 0 < m) : ∃ v, sem_law_mix [.o (di D), .o (.int k), .o (.int m)] = some (.ok (.n (.int v)) [.o (di D), .o (.int k), .o (.int m)]) ∧ 0 ≤ v ∧ v < m := by
  obtain ⟨z, e, v, rfl, h⟩ := fn_wp (pb := [false, false, false]) (n := 4) (f := c_law_mix) (es := [.o (di D), .o (.int k), .o (.int m)]) (R := fun z => ∃ v, z = .ok (.n (.int v)) [.o (di D), .o (.int k), .o (.int m)] ∧ 0 ≤ v ∧ v < m) rfl (by
    unfold c_law_mix di
    have fin : ∀ x : Int, 0 ≤ x % m ∧ x % m < m := fun x => ⟨Int.emod_nonneg _ (by omega), Int.emod_lt_of_pos _ hm⟩
    simp -implicitDefEqProofs (maxSteps := 3000000) only [wp_seq, wp_if, wp_set, wp_ret, wp_drop, wp_app, wp_for, wp_forL, wp_frz, wp_aug, wp_fld, wp_fldA, wp_setL, wp_nil, wp_brk, wp_cont, wp_retN, thenQ_nx, thenQ_rt, thenQ_ex, thenQ_bk, thenQ_ct, setQ_ok, setQ_ex, retQ_ok, retQ_ex, dropQ_ok, dropQ_ex, fldQ_ok, bodyQ_nx, bodyQ_ct, bodyQ_bk, bodyQ_rt, bodyQ_ex, endQ_rt, endQ_nx, endQ_ex, mE_eq, mMv_eq, mV, mNoex, p_V, pC, pU, pO, pN, aNil, aCons, p_B', asB_bl, bNot, bAnd, bOr, pIf, pB, p_ch, qv_add, qv_addA, qv_addL, qv_sub, qv_mul, qv_mulL, qv_div, qv_mod, qv_pow, qv_shl, qv_shr, qv_lt, qv_le, qv_gt, qv_ge, qv_neg, qv_eqI, qv_neI, qv_eqB, qv_neB, qv_ix, qv_ixT, qv_ixR, qv_len, qv_lenT, qv_lenR, qv_abs, qv_int, qv_intB, qv_max2, qv_min2, qv_rg1, qv_rg2, qv_items, qv_itemsT, qv_itemsR, qv_lst, qv_lstR, qv_isN0, qv_isNI, qv_isNL, qv_isNT, qv_noN0, qv_noNI, qv_noNL, qv_noNT, pFld, iL, iT, iN, p_E, sc_int, sc_bl, sc_non, eF, eV, esNil, esCons, eLst, eTup, eN, eAddA, eIf, fLst, fSl, oP, fList, fCat, fRep, pF, pLst, pTup, pSl, gN, gT, gsNil, gsCons, bN, lf, bYes, finE, leaf, getS, getP, getFd, setP, setFd, setF, putE, plSlot, lenE, appE, asL, setE, toD, frz, frzAll, leafE, wipeE, kids, ex_bind, ex_map, ex_if, ex_some, List.getElem?_cons_zero, List.getElem?_cons_succ, List.set_cons_zero, List.set_cons_succ, List.length_cons, List.length_nil, List.length_map, List.map_cons, List.map_nil, List.cons_append, List.nil_append, Option.bind_some, Option.map_some, Option.bind_none, Option.map_none, Option.some.injEq, exists_eq_left, exists_eq_left', and_true, true_and, Et.n.injEq, Et.o.injEq, Et.fl.injEq, Dt.int.injEq, Dt.bl.injEq, decide_eq_true_eq, decide_eq_false_iff_not, forall_const, if_true, if_false, Bool.false_eq_true, reduceIte, List.replicate_succ, List.replicate_zero, true_implies, false_implies, reduceCtorEq, Fz.ok.injEq, List.cons.injEq, atI_map, List.length_append, appE_fl, snoc_i, fLc, cutD_map, sIx_no, all_sc, map_app, rep_fl, rep_int, intsOf_m, qv_min, qv_max, qv_sum, wp_loop0, sc_lst, sc_tup, sc_ob, mMeth, mMethT, tempOk, eMk, eM, pM, obOk, lentOk, own, owns, Bool.and_true, Bool.true_and, Bool.not_true, Bool.not_false, Bool.not_eq_true, Bool.not_eq_false, Bool.not_eq_eq_eq_not]
    refine ⟨by decide, fun h => ?_, fun h => ?_⟩
    · obtain ⟨x, hx, -, -⟩ := atI_some (xs := D) (i := k % D.length) (Int.emod_nonneg _ (by omega)) (Int.emod_lt_of_pos _ h)
      exact ⟨h, x, hx, by decide, fun _ => ⟨hm, fin _⟩, fun _ => ⟨cMul_r (by decide), cMul_r (by decide), by decide, hm, fin _⟩⟩
    · exact ⟨fun _ => ⟨hm, fin _⟩, fun _ => ⟨cMul_r (by decide), cMul_r (by decide), by decide, hm, fin _⟩⟩)
  exact ⟨v, e, h⟩
theorem mix_sem (D : List Int) (k m : Int) : ∃ v : Int, 0 < m → sem_law_mix [.o (di D), .o (.int k), .o (.int m)] = some (.ok (.n (.int v)) [.o (di D), .o (.int k), .o (.int m)]) ∧ 0 ≤ v ∧ v < m := by
  by_cases h : 0 < m
  · obtain ⟨v, e⟩ := mix_ok D k m h
    exact ⟨v, fun _ => e⟩
  · exact ⟨0, fun z => absurd z h⟩
noncomputable def mixv (D : List Int) (k m : Int) : Int := (mix_sem D k m).choose
theorem mixv_s (D : List Int) (k m : Int) (h : 0 < m) : sem_law_mix [.o (di D), .o (.int k), .o (.int m)] = some (.ok (.n (.int (mixv D k m))) [.o (di D), .o (.int k), .o (.int m)]) := ((mix_sem D k m).choose_spec h).1
theorem mixv_0 {D : List Int} {k m : Int} (h : 0 < m) : 0 ≤ mixv D k m := ((mix_sem D k m).choose_spec h).2.1
theorem mixv_1 {D : List Int} {k m : Int} (h : 0 < m) : mixv D k m < m := ((mix_sem D k m).choose_spec h).2.2
theorem mix_P {D : List Int} {k m : Int} (h : 0 < m) : cP sem_law_mix [di D, .int k, .int m] = some (.int (mixv D k m)) := cP_of (mixv_s D k m h)
theorem mix_E {D : List Int} {k m : Int} (h : 0 < m) : cE sem_law_mix [di D, .int k, .int m] = some (.n (.int (mixv D k m))) := cE_of (mixv_s D k m h)
noncomputable def bitsv (D : List Int) (k c : Int) : List Int := (List.range c.toNat).map fun (j : Nat) => mixv D (k + (0 + (j : Int) * 1)) 2
theorem bitsv_len {D : List Int} {k c : Int} : (bitsv D k c).length = c.toNat := by simp [bitsv]
theorem bitsv_01 {D : List Int} {k c : Int} : ∀ b ∈ bitsv D k c, b = 0 ∨ b = 1 := by
  intro b hb
  obtain ⟨j, _, rfl⟩ := List.mem_map.mp hb
  have h1 := @mixv_0 _ D (k + (0 + (j : Int) * 1)) 2 (by decide)
  have h2 := @mixv_1 _ D (k + (0 + (j : Int) * 1)) 2 (by decide)
  omega
theorem sz : sizeLine = 16777216 := by decide
theorem bits_E {D : List Int} {k c : Int} (h0 : 0 ≤ c) (h1 : c < 1000000) : cE sem_law_bits [di D, .int k, .int c] = some (.fl ((bitsv D k c).map .int)) := by
  refine cE_of (es := [.o (di D), .o (.int k), .o (.int c)]) ?_
  refine fn_eq rfl ?_
  unfold c_law_bits di
  have m2 : ∀ k, cP sem_law_mix [.lst (D.map .int), .int k, .int 2] = some (.int (mixv D k 2)) := fun k => mix_P (by decide)
  simp -implicitDefEqProofs (maxSteps := 3000000) only [wp_seq, wp_if, wp_set, wp_ret, wp_drop, wp_app, wp_for, wp_forL, wp_frz, wp_aug, wp_fld, wp_fldA, wp_setL, wp_nil, wp_brk, wp_cont, wp_retN, thenQ_nx, thenQ_rt, thenQ_ex, thenQ_bk, thenQ_ct, setQ_ok, setQ_ex, retQ_ok, retQ_ex, dropQ_ok, dropQ_ex, fldQ_ok, bodyQ_nx, bodyQ_ct, bodyQ_bk, bodyQ_rt, bodyQ_ex, endQ_rt, endQ_nx, endQ_ex, mE_eq, mMv_eq, mV, mNoex, p_V, pC, pU, pO, pN, aNil, aCons, p_B', asB_bl, bNot, bAnd, bOr, pIf, pB, p_ch, qv_add, qv_addA, qv_addL, qv_sub, qv_mul, qv_mulL, qv_div, qv_mod, qv_pow, qv_shl, qv_shr, qv_lt, qv_le, qv_gt, qv_ge, qv_neg, qv_eqI, qv_neI, qv_eqB, qv_neB, qv_ix, qv_ixT, qv_ixR, qv_len, qv_lenT, qv_lenR, qv_abs, qv_int, qv_intB, qv_max2, qv_min2, qv_rg1, qv_rg2, qv_items, qv_itemsT, qv_itemsR, qv_lst, qv_lstR, qv_isN0, qv_isNI, qv_isNL, qv_isNT, qv_noN0, qv_noNI, qv_noNL, qv_noNT, pFld, iL, iT, iN, p_E, sc_int, sc_bl, sc_non, eF, eV, esNil, esCons, eLst, eTup, eN, eAddA, eIf, fLst, fSl, oP, fList, fCat, fRep, pF, pLst, pTup, pSl, gN, gT, gsNil, gsCons, bN, lf, bYes, finE, leaf, getS, getP, getFd, setP, setFd, setF, putE, plSlot, lenE, appE, asL, setE, toD, frz, frzAll, leafE, wipeE, kids, ex_bind, ex_map, ex_if, ex_some, List.getElem?_cons_zero, List.getElem?_cons_succ, List.set_cons_zero, List.set_cons_succ, List.length_cons, List.length_nil, List.length_map, List.map_cons, List.map_nil, List.cons_append, List.nil_append, Option.bind_some, Option.map_some, Option.bind_none, Option.map_none, Option.some.injEq, exists_eq_left, exists_eq_left', and_true, true_and, Et.n.injEq, Et.o.injEq, Et.fl.injEq, Dt.int.injEq, Dt.bl.injEq, decide_eq_true_eq, decide_eq_false_iff_not, forall_const, if_true, if_false, Bool.false_eq_true, reduceIte, List.replicate_succ, List.replicate_zero, true_implies, false_implies, reduceCtorEq, Fz.ok.injEq, List.cons.injEq, atI_map, List.length_append, appE_fl, snoc_i, fLc, cutD_map, sIx_no, all_sc, map_app, rep_fl, rep_int, intsOf_m, qv_min, qv_max, qv_sum, wp_loop0, sc_lst, sc_tup, sc_ob, mMeth, mMethT, tempOk, eMk, eM, pM, obOk, lentOk, own, owns, Bool.and_true, Bool.true_and, Bool.not_true, Bool.not_false, Bool.not_eq_true, Bool.not_eq_false, Bool.not_eq_eq_eq_not, toDs, Nat.reduceAdd, Nat.reduceLT, List.all_nil, Nat.reduceEqDiff, Nat.reduceSub, Nat.reduceMul, Int.reduceLT, Int.reduceLE, Int.reduceAdd, Int.reduceSub, Int.reduceMul, Int.reduceNeg, Int.reduceToNat, Nat.lt_irrefl, Nat.zero_le, Nat.not_lt_zero, Nat.zero_lt_succ]
  refine ⟨by unfold lim62; omega, ((bitsv D k c).map .int), ?_, ?_⟩
  · unfold bitsv
    refine cLp_r fun j hj => ⟨_, if_pos (by simp), rfl, ?_⟩
    simp -implicitDefEqProofs (maxSteps := 3000000) only [wp_seq, wp_if, wp_set, wp_ret, wp_drop, wp_app, wp_for, wp_forL, wp_frz, wp_aug, wp_fld, wp_fldA, wp_setL, wp_nil, wp_brk, wp_cont, wp_retN, thenQ_nx, thenQ_rt, thenQ_ex, thenQ_bk, thenQ_ct, setQ_ok, setQ_ex, retQ_ok, retQ_ex, dropQ_ok, dropQ_ex, fldQ_ok, bodyQ_nx, bodyQ_ct, bodyQ_bk, bodyQ_rt, bodyQ_ex, endQ_rt, endQ_nx, endQ_ex, mE_eq, mMv_eq, mV, mNoex, p_V, pC, pU, pO, pN, aNil, aCons, p_B', asB_bl, bNot, bAnd, bOr, pIf, pB, p_ch, qv_add, qv_addA, qv_addL, qv_sub, qv_mul, qv_mulL, qv_div, qv_mod, qv_pow, qv_shl, qv_shr, qv_lt, qv_le, qv_gt, qv_ge, qv_neg, qv_eqI, qv_neI, qv_eqB, qv_neB, qv_ix, qv_ixT, qv_ixR, qv_len, qv_lenT, qv_lenR, qv_abs, qv_int, qv_intB, qv_max2, qv_min2, qv_rg1, qv_rg2, qv_items, qv_itemsT, qv_itemsR, qv_lst, qv_lstR, qv_isN0, qv_isNI, qv_isNL, qv_isNT, qv_noN0, qv_noNI, qv_noNL, qv_noNT, pFld, iL, iT, iN, p_E, sc_int, sc_bl, sc_non, eF, eV, esNil, esCons, eLst, eTup, eN, eAddA, eIf, fLst, fSl, oP, fList, fCat, fRep, pF, pLst, pTup, pSl, gN, gT, gsNil, gsCons, bN, lf, bYes, finE, leaf, getS, getP, getFd, setP, setFd, setF, putE, plSlot, lenE, appE, asL, setE, toD, frz, frzAll, leafE, wipeE, kids, ex_bind, ex_map, ex_if, ex_some, List.getElem?_cons_zero, List.getElem?_cons_succ, List.set_cons_zero, List.set_cons_succ, List.length_cons, List.length_nil, List.length_map, List.map_cons, List.map_nil, List.cons_append, List.nil_append, Option.bind_some, Option.map_some, Option.bind_none, Option.map_none, Option.some.injEq, exists_eq_left, exists_eq_left', and_true, true_and, Et.n.injEq, Et.o.injEq, Et.fl.injEq, Dt.int.injEq, Dt.bl.injEq, decide_eq_true_eq, decide_eq_false_iff_not, forall_const, if_true, if_false, Bool.false_eq_true, reduceIte, List.replicate_succ, List.replicate_zero, true_implies, false_implies, reduceCtorEq, Fz.ok.injEq, List.cons.injEq, atI_map, List.length_append, appE_fl, snoc_i, fLc, cutD_map, sIx_no, all_sc, map_app, rep_fl, rep_int, intsOf_m, qv_min, qv_max, qv_sum, wp_loop0, sc_lst, sc_tup, sc_ob, mMeth, mMethT, tempOk, eMk, eM, pM, obOk, lentOk, own, owns, Bool.and_true, Bool.true_and, Bool.not_true, Bool.not_false, Bool.not_eq_true, Bool.not_eq_false, Bool.not_eq_eq_eq_not, toDs, Nat.reduceAdd, Nat.reduceLT, List.all_nil, Nat.reduceEqDiff, Nat.reduceSub, Nat.reduceMul, Int.reduceLT, Int.reduceLE, Int.reduceAdd, Int.reduceSub, Int.reduceMul, Int.reduceNeg, Int.reduceToNat, Nat.lt_irrefl, Nat.zero_le, Nat.not_lt_zero, Nat.zero_lt_succ, m2]
  · rw [List.length_map, bitsv_len, sz]
    simp -implicitDefEqProofs (maxSteps := 3000000) only [wp_seq, wp_if, wp_set, wp_ret, wp_drop, wp_app, wp_for, wp_forL, wp_frz, wp_aug, wp_fld, wp_fldA, wp_setL, wp_nil, wp_brk, wp_cont, wp_retN, thenQ_nx, thenQ_rt, thenQ_ex, thenQ_bk, thenQ_ct, setQ_ok, setQ_ex, retQ_ok, retQ_ex, dropQ_ok, dropQ_ex, fldQ_ok, bodyQ_nx, bodyQ_ct, bodyQ_bk, bodyQ_rt, bodyQ_ex, endQ_rt, endQ_nx, endQ_ex, mE_eq, mMv_eq, mV, mNoex, p_V, pC, pU, pO, pN, aNil, aCons, p_B', asB_bl, bNot, bAnd, bOr, pIf, pB, p_ch, qv_add, qv_addA, qv_addL, qv_sub, qv_mul, qv_mulL, qv_div, qv_mod, qv_pow, qv_shl, qv_shr, qv_lt, qv_le, qv_gt, qv_ge, qv_neg, qv_eqI, qv_neI, qv_eqB, qv_neB, qv_ix, qv_ixT, qv_ixR, qv_len, qv_lenT, qv_lenR, qv_abs, qv_int, qv_intB, qv_max2, qv_min2, qv_rg1, qv_rg2, qv_items, qv_itemsT, qv_itemsR, qv_lst, qv_lstR, qv_isN0, qv_isNI, qv_isNL, qv_isNT, qv_noN0, qv_noNI, qv_noNL, qv_noNT, pFld, iL, iT, iN, p_E, sc_int, sc_bl, sc_non, eF, eV, esNil, esCons, eLst, eTup, eN, eAddA, eIf, fLst, fSl, oP, fList, fCat, fRep, pF, pLst, pTup, pSl, gN, gT, gsNil, gsCons, bN, lf, bYes, finE, leaf, getS, getP, getFd, setP, setFd, setF, putE, plSlot, lenE, appE, asL, setE, toD, frz, frzAll, leafE, wipeE, kids, ex_bind, ex_map, ex_if, ex_some, List.getElem?_cons_zero, List.getElem?_cons_succ, List.set_cons_zero, List.set_cons_succ, List.length_cons, List.length_nil, List.length_map, List.map_cons, List.map_nil, List.cons_append, List.nil_append, Option.bind_some, Option.map_some, Option.bind_none, Option.map_none, Option.some.injEq, exists_eq_left, exists_eq_left', and_true, true_and, Et.n.injEq, Et.o.injEq, Et.fl.injEq, Dt.int.injEq, Dt.bl.injEq, decide_eq_true_eq, decide_eq_false_iff_not, forall_const, if_true, if_false, Bool.false_eq_true, reduceIte, List.replicate_succ, List.replicate_zero, true_implies, false_implies, reduceCtorEq, Fz.ok.injEq, List.cons.injEq, atI_map, List.length_append, appE_fl, snoc_i, fLc, cutD_map, sIx_no, all_sc, map_app, rep_fl, rep_int, intsOf_m, qv_min, qv_max, qv_sum, wp_loop0, sc_lst, sc_tup, sc_ob, mMeth, mMethT, tempOk, eMk, eM, pM, obOk, lentOk, own, owns, Bool.and_true, Bool.true_and, Bool.not_true, Bool.not_false, Bool.not_eq_true, Bool.not_eq_false, Bool.not_eq_eq_eq_not, toDs, Nat.reduceAdd, Nat.reduceLT, List.all_nil, Nat.reduceEqDiff, Nat.reduceSub, Nat.reduceMul, Int.reduceLT, Int.reduceLE, Int.reduceAdd, Int.reduceSub, Int.reduceMul, Int.reduceNeg, Int.reduceToNat, Nat.lt_irrefl, Nat.zero_le, Nat.not_lt_zero, Nat.zero_lt_succ]
    omega
/-! marks -/
def dist (xs ys : List Int) : Nat := ((List.range xs.length).filter fun k => decide (xs.getD k 0 ≠ ys.getD k 0)).length
theorem dist_s {xs ys : List Int} (h : xs.length = ys.length) (h1 : xs.length < 1000000) : sem_distance [.o (di xs), .o (di ys)] = some (.ok (.n (.int (dist xs ys))) [.o (di xs), .o (di ys)]) := by
  refine fn_eq rfl ?_
  unfold c_distance di
  simp -implicitDefEqProofs (maxSteps := 3000000) only [wp_seq, wp_if, wp_set, wp_ret, wp_drop, wp_app, wp_for, wp_forL, wp_frz, wp_aug, wp_fld, wp_fldA, wp_setL, wp_nil, wp_brk, wp_cont, wp_retN, thenQ_nx, thenQ_rt, thenQ_ex, thenQ_bk, thenQ_ct, setQ_ok, setQ_ex, retQ_ok, retQ_ex, dropQ_ok, dropQ_ex, fldQ_ok, bodyQ_nx, bodyQ_ct, bodyQ_bk, bodyQ_rt, bodyQ_ex, endQ_rt, endQ_nx, endQ_ex, mE_eq, mMv_eq, mV, mNoex, p_V, pC, pU, pO, pN, aNil, aCons, p_B', asB_bl, bNot, bAnd, bOr, pIf, pB, p_ch, qv_add, qv_addA, qv_addL, qv_sub, qv_mul, qv_mulL, qv_div, qv_mod, qv_pow, qv_shl, qv_shr, qv_lt, qv_le, qv_gt, qv_ge, qv_neg, qv_eqI, qv_neI, qv_eqB, qv_neB, qv_ix, qv_ixT, qv_ixR, qv_len, qv_lenT, qv_lenR, qv_abs, qv_int, qv_intB, qv_max2, qv_min2, qv_rg1, qv_rg2, qv_items, qv_itemsT, qv_itemsR, qv_lst, qv_lstR, qv_isN0, qv_isNI, qv_isNL, qv_isNT, qv_noN0, qv_noNI, qv_noNL, qv_noNT, pFld, iL, iT, iN, p_E, sc_int, sc_bl, sc_non, eF, eV, esNil, esCons, eLst, eTup, eN, eAddA, eIf, fLst, fSl, oP, fList, fCat, fRep, pF, pLst, pTup, pSl, gN, gT, gsNil, gsCons, bN, lf, bYes, finE, leaf, getS, getP, getFd, setP, setFd, setF, putE, plSlot, lenE, appE, asL, setE, toD, frz, frzAll, leafE, wipeE, kids, ex_bind, ex_map, ex_if, ex_some, List.getElem?_cons_zero, List.getElem?_cons_succ, List.set_cons_zero, List.set_cons_succ, List.length_cons, List.length_nil, List.length_map, List.map_cons, List.map_nil, List.cons_append, List.nil_append, Option.bind_some, Option.map_some, Option.bind_none, Option.map_none, Option.some.injEq, exists_eq_left, exists_eq_left', and_true, true_and, Et.n.injEq, Et.o.injEq, Et.fl.injEq, Dt.int.injEq, Dt.bl.injEq, decide_eq_true_eq, decide_eq_false_iff_not, forall_const, if_true, if_false, Bool.false_eq_true, reduceIte, List.replicate_succ, List.replicate_zero, true_implies, false_implies, reduceCtorEq, Fz.ok.injEq, List.cons.injEq, atI_map, List.length_append, appE_fl, snoc_i, fLc, cutD_map, sIx_no, all_sc, map_app, rep_fl, rep_int, intsOf_m, qv_min, qv_max, qv_sum, wp_loop0, sc_lst, sc_tup, sc_ob, mMeth, mMethT, tempOk, eMk, eM, pM, obOk, lentOk, own, owns, Bool.and_true, Bool.true_and, Bool.not_true, Bool.not_false, Bool.not_eq_true, Bool.not_eq_false, Bool.not_eq_eq_eq_not]
  refine ⟨fun z => absurd (by rw [h]) z, fun _ => ⟨by unfold lim62; omega, (((List.range xs.length).filter fun k => decide (xs.getD k 0 ≠ ys.getD k 0)).map fun (k : Nat) => (0 + (k : Int) * 1)).map .int, ?_, ?_⟩⟩
  · refine cLp_rF fun j hj => ⟨_, if_pos (by simp), ?_, fun hp => ?_⟩
    · have e1 : atI xs (0 + (j : Int) * 1) = some (xs.getD j 0) := by rw [atI_getD (by omega) (by omega)]; congr 2; omega
      have e2 : atI ys (0 + (j : Int) * 1) = some (ys.getD j 0) := by rw [atI_getD (by omega) (by omega)]; congr 2; omega
      simp -implicitDefEqProofs (maxSteps := 3000000) only [wp_seq, wp_if, wp_set, wp_ret, wp_drop, wp_app, wp_for, wp_forL, wp_frz, wp_aug, wp_fld, wp_fldA, wp_setL, wp_nil, wp_brk, wp_cont, wp_retN, thenQ_nx, thenQ_rt, thenQ_ex, thenQ_bk, thenQ_ct, setQ_ok, setQ_ex, retQ_ok, retQ_ex, dropQ_ok, dropQ_ex, fldQ_ok, bodyQ_nx, bodyQ_ct, bodyQ_bk, bodyQ_rt, bodyQ_ex, endQ_rt, endQ_nx, endQ_ex, mE_eq, mMv_eq, mV, mNoex, p_V, pC, pU, pO, pN, aNil, aCons, p_B', asB_bl, bNot, bAnd, bOr, pIf, pB, p_ch, qv_add, qv_addA, qv_addL, qv_sub, qv_mul, qv_mulL, qv_div, qv_mod, qv_pow, qv_shl, qv_shr, qv_lt, qv_le, qv_gt, qv_ge, qv_neg, qv_eqI, qv_neI, qv_eqB, qv_neB, qv_ix, qv_ixT, qv_ixR, qv_len, qv_lenT, qv_lenR, qv_abs, qv_int, qv_intB, qv_max2, qv_min2, qv_rg1, qv_rg2, qv_items, qv_itemsT, qv_itemsR, qv_lst, qv_lstR, qv_isN0, qv_isNI, qv_isNL, qv_isNT, qv_noN0, qv_noNI, qv_noNL, qv_noNT, pFld, iL, iT, iN, p_E, sc_int, sc_bl, sc_non, eF, eV, esNil, esCons, eLst, eTup, eN, eAddA, eIf, fLst, fSl, oP, fList, fCat, fRep, pF, pLst, pTup, pSl, gN, gT, gsNil, gsCons, bN, lf, bYes, finE, leaf, getS, getP, getFd, setP, setFd, setF, putE, plSlot, lenE, appE, asL, setE, toD, frz, frzAll, leafE, wipeE, kids, ex_bind, ex_map, ex_if, ex_some, List.getElem?_cons_zero, List.getElem?_cons_succ, List.set_cons_zero, List.set_cons_succ, List.length_cons, List.length_nil, List.length_map, List.map_cons, List.map_nil, List.cons_append, List.nil_append, Option.bind_some, Option.map_some, Option.bind_none, Option.map_none, Option.some.injEq, exists_eq_left, exists_eq_left', and_true, true_and, Et.n.injEq, Et.o.injEq, Et.fl.injEq, Dt.int.injEq, Dt.bl.injEq, decide_eq_true_eq, decide_eq_false_iff_not, forall_const, if_true, if_false, Bool.false_eq_true, reduceIte, List.replicate_succ, List.replicate_zero, true_implies, false_implies, reduceCtorEq, Fz.ok.injEq, List.cons.injEq, atI_map, List.length_append, appE_fl, snoc_i, fLc, cutD_map, sIx_no, all_sc, map_app, rep_fl, rep_int, intsOf_m, qv_min, qv_max, qv_sum, wp_loop0, sc_lst, sc_tup, sc_ob, mMeth, mMethT, tempOk, eMk, eM, pM, obOk, lentOk, own, owns, Bool.and_true, Bool.true_and, Bool.not_true, Bool.not_false, Bool.not_eq_true, Bool.not_eq_false, Bool.not_eq_eq_eq_not, e1, e2]
    · simp -implicitDefEqProofs (maxSteps := 3000000) only [wp_seq, wp_if, wp_set, wp_ret, wp_drop, wp_app, wp_for, wp_forL, wp_frz, wp_aug, wp_fld, wp_fldA, wp_setL, wp_nil, wp_brk, wp_cont, wp_retN, thenQ_nx, thenQ_rt, thenQ_ex, thenQ_bk, thenQ_ct, setQ_ok, setQ_ex, retQ_ok, retQ_ex, dropQ_ok, dropQ_ex, fldQ_ok, bodyQ_nx, bodyQ_ct, bodyQ_bk, bodyQ_rt, bodyQ_ex, endQ_rt, endQ_nx, endQ_ex, mE_eq, mMv_eq, mV, mNoex, p_V, pC, pU, pO, pN, aNil, aCons, p_B', asB_bl, bNot, bAnd, bOr, pIf, pB, p_ch, qv_add, qv_addA, qv_addL, qv_sub, qv_mul, qv_mulL, qv_div, qv_mod, qv_pow, qv_shl, qv_shr, qv_lt, qv_le, qv_gt, qv_ge, qv_neg, qv_eqI, qv_neI, qv_eqB, qv_neB, qv_ix, qv_ixT, qv_ixR, qv_len, qv_lenT, qv_lenR, qv_abs, qv_int, qv_intB, qv_max2, qv_min2, qv_rg1, qv_rg2, qv_items, qv_itemsT, qv_itemsR, qv_lst, qv_lstR, qv_isN0, qv_isNI, qv_isNL, qv_isNT, qv_noN0, qv_noNI, qv_noNL, qv_noNT, pFld, iL, iT, iN, p_E, sc_int, sc_bl, sc_non, eF, eV, esNil, esCons, eLst, eTup, eN, eAddA, eIf, fLst, fSl, oP, fList, fCat, fRep, pF, pLst, pTup, pSl, gN, gT, gsNil, gsCons, bN, lf, bYes, finE, leaf, getS, getP, getFd, setP, setFd, setF, putE, plSlot, lenE, appE, asL, setE, toD, frz, frzAll, leafE, wipeE, kids, ex_bind, ex_map, ex_if, ex_some, List.getElem?_cons_zero, List.getElem?_cons_succ, List.set_cons_zero, List.set_cons_succ, List.length_cons, List.length_nil, List.length_map, List.map_cons, List.map_nil, List.cons_append, List.nil_append, Option.bind_some, Option.map_some, Option.bind_none, Option.map_none, Option.some.injEq, exists_eq_left, exists_eq_left', and_true, true_and, Et.n.injEq, Et.o.injEq, Et.fl.injEq, Dt.int.injEq, Dt.bl.injEq, decide_eq_true_eq, decide_eq_false_iff_not, forall_const, if_true, if_false, Bool.false_eq_true, reduceIte, List.replicate_succ, List.replicate_zero, true_implies, false_implies, reduceCtorEq, Fz.ok.injEq, List.cons.injEq, atI_map, List.length_append, appE_fl, snoc_i, fLc, cutD_map, sIx_no, all_sc, map_app, rep_fl, rep_int, intsOf_m, qv_min, qv_max, qv_sum, wp_loop0, sc_lst, sc_tup, sc_ob, mMeth, mMethT, tempOk, eMk, eM, pM, obOk, lentOk, own, owns, Bool.and_true, Bool.true_and, Bool.not_true, Bool.not_false, Bool.not_eq_true, Bool.not_eq_false, Bool.not_eq_eq_eq_not]
  · simp -implicitDefEqProofs (maxSteps := 3000000) only [wp_seq, wp_if, wp_set, wp_ret, wp_drop, wp_app, wp_for, wp_forL, wp_frz, wp_aug, wp_fld, wp_fldA, wp_setL, wp_nil, wp_brk, wp_cont, wp_retN, thenQ_nx, thenQ_rt, thenQ_ex, thenQ_bk, thenQ_ct, setQ_ok, setQ_ex, retQ_ok, retQ_ex, dropQ_ok, dropQ_ex, fldQ_ok, bodyQ_nx, bodyQ_ct, bodyQ_bk, bodyQ_rt, bodyQ_ex, endQ_rt, endQ_nx, endQ_ex, mE_eq, mMv_eq, mV, mNoex, p_V, pC, pU, pO, pN, aNil, aCons, p_B', asB_bl, bNot, bAnd, bOr, pIf, pB, p_ch, qv_add, qv_addA, qv_addL, qv_sub, qv_mul, qv_mulL, qv_div, qv_mod, qv_pow, qv_shl, qv_shr, qv_lt, qv_le, qv_gt, qv_ge, qv_neg, qv_eqI, qv_neI, qv_eqB, qv_neB, qv_ix, qv_ixT, qv_ixR, qv_len, qv_lenT, qv_lenR, qv_abs, qv_int, qv_intB, qv_max2, qv_min2, qv_rg1, qv_rg2, qv_items, qv_itemsT, qv_itemsR, qv_lst, qv_lstR, qv_isN0, qv_isNI, qv_isNL, qv_isNT, qv_noN0, qv_noNI, qv_noNL, qv_noNT, pFld, iL, iT, iN, p_E, sc_int, sc_bl, sc_non, eF, eV, esNil, esCons, eLst, eTup, eN, eAddA, eIf, fLst, fSl, oP, fList, fCat, fRep, pF, pLst, pTup, pSl, gN, gT, gsNil, gsCons, bN, lf, bYes, finE, leaf, getS, getP, getFd, setP, setFd, setF, putE, plSlot, lenE, appE, asL, setE, toD, frz, frzAll, leafE, wipeE, kids, ex_bind, ex_map, ex_if, ex_some, List.getElem?_cons_zero, List.getElem?_cons_succ, List.set_cons_zero, List.set_cons_succ, List.length_cons, List.length_nil, List.length_map, List.map_cons, List.map_nil, List.cons_append, List.nil_append, Option.bind_some, Option.map_some, Option.bind_none, Option.map_none, Option.some.injEq, exists_eq_left, exists_eq_left', and_true, true_and, Et.n.injEq, Et.o.injEq, Et.fl.injEq, Dt.int.injEq, Dt.bl.injEq, decide_eq_true_eq, decide_eq_false_iff_not, forall_const, if_true, if_false, Bool.false_eq_true, reduceIte, List.replicate_succ, List.replicate_zero, true_implies, false_implies, reduceCtorEq, Fz.ok.injEq, List.cons.injEq, atI_map, List.length_append, appE_fl, snoc_i, fLc, cutD_map, sIx_no, all_sc, map_app, rep_fl, rep_int, intsOf_m, qv_min, qv_max, qv_sum, wp_loop0, sc_lst, sc_tup, sc_ob, mMeth, mMethT, tempOk, eMk, eM, pM, obOk, lentOk, own, owns, Bool.and_true, Bool.true_and, Bool.not_true, Bool.not_false, Bool.not_eq_true, Bool.not_eq_false, Bool.not_eq_eq_eq_not]
    have l1 : ((List.range xs.length).filter fun k => decide (xs.getD k 0 ≠ ys.getD k 0)).length ≤ xs.length := by
      have := List.length_filter_le (fun k => decide (xs.getD k 0 ≠ ys.getD k 0)) (List.range xs.length)
      simpa using this
    refine ⟨by rw [sz]; omega, ?_⟩
    simp [dist]
theorem dist_P {xs ys : List Int} (h : xs.length = ys.length) (h1 : xs.length < 1000000) : cP sem_distance [di xs, di ys] = some (.int (dist xs ys)) := cP_of (dist_s h h1)
def befo (m : List Int) (j : Nat) : List Int := List.replicate j 0 ++ m.take (m.length - j)
theorem befo_len {m : List Int} {j : Nat} (h : j ≤ m.length) : (befo m j).length = m.length := by simp [befo]; omega
theorem befo_s {m : List Int} {j : Int} (h0 : 0 ≤ j) (h1 : j ≤ m.length) (h2 : m.length < 1000000) : sem_before_mark [.o (di m), .o (.int j)] = some (.ok (.fl ((befo m j.toNat).map .int)) [.o (di m), .o (.int j)]) := by
  refine fn_eq rfl ?_
  unfold c_before_mark di
  simp -implicitDefEqProofs (maxSteps := 3000000) only [wp_seq, wp_if, wp_set, wp_ret, wp_drop, wp_app, wp_for, wp_forL, wp_frz, wp_aug, wp_fld, wp_fldA, wp_setL, wp_nil, wp_brk, wp_cont, wp_retN, thenQ_nx, thenQ_rt, thenQ_ex, thenQ_bk, thenQ_ct, setQ_ok, setQ_ex, retQ_ok, retQ_ex, dropQ_ok, dropQ_ex, fldQ_ok, bodyQ_nx, bodyQ_ct, bodyQ_bk, bodyQ_rt, bodyQ_ex, endQ_rt, endQ_nx, endQ_ex, mE_eq, mMv_eq, mV, mNoex, p_V, pC, pU, pO, pN, aNil, aCons, p_B', asB_bl, bNot, bAnd, bOr, pIf, pB, p_ch, qv_add, qv_addA, qv_addL, qv_sub, qv_mul, qv_mulL, qv_div, qv_mod, qv_pow, qv_shl, qv_shr, qv_lt, qv_le, qv_gt, qv_ge, qv_neg, qv_eqI, qv_neI, qv_eqB, qv_neB, qv_ix, qv_ixT, qv_ixR, qv_len, qv_lenT, qv_lenR, qv_abs, qv_int, qv_intB, qv_max2, qv_min2, qv_rg1, qv_rg2, qv_items, qv_itemsT, qv_itemsR, qv_lst, qv_lstR, qv_isN0, qv_isNI, qv_isNL, qv_isNT, qv_noN0, qv_noNI, qv_noNL, qv_noNT, pFld, iL, iT, iN, p_E, sc_int, sc_bl, sc_non, eF, eV, esNil, esCons, eLst, eTup, eN, eAddA, eIf, fLst, fSl, oP, fList, fCat, fRep, pF, pLst, pTup, pSl, gN, gT, gsNil, gsCons, bN, lf, bYes, finE, leaf, getS, getP, getFd, setP, setFd, setF, putE, plSlot, lenE, appE, asL, setE, toD, frz, frzAll, leafE, wipeE, kids, ex_bind, ex_map, ex_if, ex_some, List.getElem?_cons_zero, List.getElem?_cons_succ, List.set_cons_zero, List.set_cons_succ, List.length_cons, List.length_nil, List.length_map, List.map_cons, List.map_nil, List.cons_append, List.nil_append, Option.bind_some, Option.map_some, Option.bind_none, Option.map_none, Option.some.injEq, exists_eq_left, exists_eq_left', and_true, true_and, Et.n.injEq, Et.o.injEq, Et.fl.injEq, Dt.int.injEq, Dt.bl.injEq, decide_eq_true_eq, decide_eq_false_iff_not, forall_const, if_true, if_false, Bool.false_eq_true, reduceIte, List.replicate_succ, List.replicate_zero, true_implies, false_implies, reduceCtorEq, Fz.ok.injEq, List.cons.injEq, atI_map, List.length_append, appE_fl, snoc_i, fLc, cutD_map, sIx_no, all_sc, map_app, rep_fl, rep_int, intsOf_m, qv_min, qv_max, qv_sum, wp_loop0, sc_lst, sc_tup, sc_ob, mMeth, mMethT, tempOk, eMk, eM, pM, obOk, lentOk, own, owns, Bool.and_true, Bool.true_and, Bool.not_true, Bool.not_false, Bool.not_eq_true, Bool.not_eq_false, Bool.not_eq_eq_eq_not]
  rw [sIx_pos (by omega), sz]
  have e1 : min (m.length - j).toNat m.length - 0 = m.length - j.toNat := by omega
  have e2 : (List.replicate j.toNat (0 : Int) ++ List.take (m.length - j.toNat) (List.drop 0 m)).map Dt.int = (befo m j.toNat).map .int := by simp [befo]
  rw [e1]
  exact ⟨by omega, ⟨by omega, by omega, by omega⟩, by simp; omega, e2⟩
theorem befo_P {m : List Int} {j : Int} (h0 : 0 ≤ j) (h1 : j ≤ m.length) (h2 : m.length < 1000000) : cP sem_before_mark [di m, .int j] = some (di (befo m j.toNat)) := cP_of (befo_s h0 h1 h2)
theorem befo_E {m : List Int} {j : Int} (h0 : 0 ≤ j) (h1 : j ≤ m.length) (h2 : m.length < 1000000) : cE sem_before_mark [di m, .int j] = some (.fl ((befo m j.toNat).map .int)) := cE_of (befo_s h0 h1 h2)
theorem chk_E {m : List Int} (h1 : 1 ≤ m.length) (h2 : m.length ≤ 32) : cE sem_check_mark [di m] = some (.n .non) := by
  refine cE_of (es := [.o (di m)]) (fn_eq rfl ?_)
  unfold c_check_mark di
  simp -implicitDefEqProofs (maxSteps := 3000000) only [wp_seq, wp_if, wp_set, wp_ret, wp_drop, wp_app, wp_for, wp_forL, wp_frz, wp_aug, wp_fld, wp_fldA, wp_setL, wp_nil, wp_brk, wp_cont, wp_retN, thenQ_nx, thenQ_rt, thenQ_ex, thenQ_bk, thenQ_ct, setQ_ok, setQ_ex, retQ_ok, retQ_ex, dropQ_ok, dropQ_ex, fldQ_ok, bodyQ_nx, bodyQ_ct, bodyQ_bk, bodyQ_rt, bodyQ_ex, endQ_rt, endQ_nx, endQ_ex, mE_eq, mMv_eq, mV, mNoex, p_V, pC, pU, pO, pN, aNil, aCons, p_B', asB_bl, bNot, bAnd, bOr, pIf, pB, p_ch, qv_add, qv_addA, qv_addL, qv_sub, qv_mul, qv_mulL, qv_div, qv_mod, qv_pow, qv_shl, qv_shr, qv_lt, qv_le, qv_gt, qv_ge, qv_neg, qv_eqI, qv_neI, qv_eqB, qv_neB, qv_ix, qv_ixT, qv_ixR, qv_len, qv_lenT, qv_lenR, qv_abs, qv_int, qv_intB, qv_max2, qv_min2, qv_rg1, qv_rg2, qv_items, qv_itemsT, qv_itemsR, qv_lst, qv_lstR, qv_isN0, qv_isNI, qv_isNL, qv_isNT, qv_noN0, qv_noNI, qv_noNL, qv_noNT, pFld, iL, iT, iN, p_E, sc_int, sc_bl, sc_non, eF, eV, esNil, esCons, eLst, eTup, eN, eAddA, eIf, fLst, fSl, oP, fList, fCat, fRep, pF, pLst, pTup, pSl, gN, gT, gsNil, gsCons, bN, lf, bYes, finE, leaf, getS, getP, getFd, setP, setFd, setF, putE, plSlot, lenE, appE, asL, setE, toD, frz, frzAll, leafE, wipeE, kids, ex_bind, ex_map, ex_if, ex_some, List.getElem?_cons_zero, List.getElem?_cons_succ, List.set_cons_zero, List.set_cons_succ, List.length_cons, List.length_nil, List.length_map, List.map_cons, List.map_nil, List.cons_append, List.nil_append, Option.bind_some, Option.map_some, Option.bind_none, Option.map_none, Option.some.injEq, exists_eq_left, exists_eq_left', and_true, true_and, Et.n.injEq, Et.o.injEq, Et.fl.injEq, Dt.int.injEq, Dt.bl.injEq, decide_eq_true_eq, decide_eq_false_iff_not, forall_const, if_true, if_false, Bool.false_eq_true, reduceIte, List.replicate_succ, List.replicate_zero, true_implies, false_implies, reduceCtorEq, Fz.ok.injEq, List.cons.injEq, atI_map, List.length_append, appE_fl, snoc_i, fLc, cutD_map, sIx_no, all_sc, map_app, rep_fl, rep_int, intsOf_m, qv_min, qv_max, qv_sum, wp_loop0, sc_lst, sc_tup, sc_ob, mMeth, mMethT, tempOk, eMk, eM, pM, obOk, lentOk, own, owns, Bool.and_true, Bool.true_and, Bool.not_true, Bool.not_false, Bool.not_eq_true, Bool.not_eq_false, Bool.not_eq_eq_eq_not]
  have c1 : (1 : Int) ≤ m.length := by omega
  rw [if_pos c1]
  refine ⟨_, rfl, _, rfl, fun z => ?_, fun _ => trivial⟩
  simp at z
  omega
def guardL (m : List Int) : List Int := (List.range m.length).map fun (j : Nat) => ((dist m (befo m (j + 1)) : Nat) : Int)
def grd (m : List Int) : Int := (minL (guardL m)).getD 0
theorem minL_some {xs : List Int} (h : xs ≠ []) : minL xs = some ((minL xs).getD 0) := by
  cases xs with
  | nil => exact absurd rfl h
  | cons x xs => rfl
theorem guardL_ne {m : List Int} (h1 : 1 ≤ m.length) : guardL m ≠ [] := by
  intro h
  have := congrArg List.length h
  simp [guardL] at this
  rw [this] at h1
  cases h1
theorem grd_le {m : List Int} {j : Nat} (h0 : 1 ≤ j) (h1 : j ≤ m.length) : grd m ≤ dist m (befo m j) := by
  have hm : ((dist m (befo m j) : Nat) : Int) ∈ guardL m := List.mem_map.mpr ⟨j - 1, by rw [List.mem_range]; omega, by rw [show j - 1 + 1 = j by omega]⟩
  unfold grd
  cases hg : guardL m with
  | nil => rw [hg] at hm; cases hm
  | cons x xs =>
    rw [hg] at hm
    exact (foldl_min x xs).2 _ hm
-- at
theorem grd_at {m : List Int} (h1 : 1 ≤ m.length) : ∃ j, 1 ≤ j ∧ j ≤ m.length ∧ grd m = dist m (befo m j) := by
  have hm : grd m ∈ guardL m := by
    unfold grd
    cases hg : guardL m with
    | nil => exact absurd hg (guardL_ne h1)
    | cons x xs => exact (foldl_min x xs).1
  obtain ⟨j, hj, e⟩ := List.mem_map.mp hm
  exact ⟨j + 1, by omega, by simp at hj; omega, e.symm⟩
theorem guard_s {m : List Int} (h1 : 1 ≤ m.length) (h2 : m.length ≤ 32) : sem_guard [.o (di m)] = some (.ok (.n (.int (grd m))) [.o (di m)]) := by
  refine fn_eq rfl ?_
  unfold c_guard
  have l2 : guardL m = (List.range m.length).map fun (j : Nat) => ((dist m (befo m (j + 1)) : Nat) : Int) := rfl
  simp -implicitDefEqProofs (maxSteps := 3000000) only [wp_seq, wp_if, wp_set, wp_ret, wp_drop, wp_app, wp_for, wp_forL, wp_frz, wp_aug, wp_fld, wp_fldA, wp_setL, wp_nil, wp_brk, wp_cont, wp_retN, thenQ_nx, thenQ_rt, thenQ_ex, thenQ_bk, thenQ_ct, setQ_ok, setQ_ex, retQ_ok, retQ_ex, dropQ_ok, dropQ_ex, fldQ_ok, bodyQ_nx, bodyQ_ct, bodyQ_bk, bodyQ_rt, bodyQ_ex, endQ_rt, endQ_nx, endQ_ex, mE_eq, mMv_eq, mV, mNoex, p_V, pC, pU, pO, pN, aNil, aCons, p_B', asB_bl, bNot, bAnd, bOr, pIf, pB, p_ch, qv_add, qv_addA, qv_addL, qv_sub, qv_mul, qv_mulL, qv_div, qv_mod, qv_pow, qv_shl, qv_shr, qv_lt, qv_le, qv_gt, qv_ge, qv_neg, qv_eqI, qv_neI, qv_eqB, qv_neB, qv_ix, qv_ixT, qv_ixR, qv_len, qv_lenT, qv_lenR, qv_abs, qv_int, qv_intB, qv_max2, qv_min2, qv_rg1, qv_rg2, qv_items, qv_itemsT, qv_itemsR, qv_lst, qv_lstR, qv_isN0, qv_isNI, qv_isNL, qv_isNT, qv_noN0, qv_noNI, qv_noNL, qv_noNT, pFld, iL, iT, iN, p_E, sc_int, sc_bl, sc_non, eF, eV, esNil, esCons, eLst, eTup, eN, eAddA, eIf, fLst, fSl, oP, fList, fCat, fRep, pF, pLst, pTup, pSl, gN, gT, gsNil, gsCons, bN, lf, bYes, finE, leaf, getS, getP, getFd, setP, setFd, setF, putE, plSlot, lenE, appE, asL, setE, toD, frz, frzAll, leafE, wipeE, kids, ex_bind, ex_map, ex_if, ex_some, List.getElem?_cons_zero, List.getElem?_cons_succ, List.set_cons_zero, List.set_cons_succ, List.length_cons, List.length_nil, List.length_map, List.map_cons, List.map_nil, List.cons_append, List.nil_append, Option.bind_some, Option.map_some, Option.bind_none, Option.map_none, Option.some.injEq, exists_eq_left, exists_eq_left', and_true, true_and, Et.n.injEq, Et.o.injEq, Et.fl.injEq, Dt.int.injEq, Dt.bl.injEq, decide_eq_true_eq, decide_eq_false_iff_not, forall_const, if_true, if_false, Bool.false_eq_true, reduceIte, List.replicate_succ, List.replicate_zero, true_implies, false_implies, reduceCtorEq, Fz.ok.injEq, List.cons.injEq, atI_map, List.length_append, appE_fl, snoc_i, fLc, cutD_map, sIx_no, all_sc, map_app, rep_fl, rep_int, intsOf_m, qv_min, qv_max, qv_sum, wp_loop0, sc_lst, sc_tup, sc_ob, mMeth, mMethT, tempOk, eMk, eM, pM, obOk, lentOk, own, owns, Bool.and_true, Bool.true_and, Bool.not_true, Bool.not_false, Bool.not_eq_true, Bool.not_eq_false, Bool.not_eq_eq_eq_not]
  refine ⟨_, chk_E h1 h2, by unfold lim62; omega, (guardL m).map .int, ?_, ?_⟩
  · have e0 : ((m.length : Int) + 1 - 1).toNat = m.length := by omega
    rw [e0, l2]
    refine cLp_r fun j hj => ⟨_, if_pos (by simp), rfl, ?_⟩
    simp -implicitDefEqProofs (maxSteps := 3000000) only [wp_seq, wp_if, wp_set, wp_ret, wp_drop, wp_app, wp_for, wp_forL, wp_frz, wp_aug, wp_fld, wp_fldA, wp_setL, wp_nil, wp_brk, wp_cont, wp_retN, thenQ_nx, thenQ_rt, thenQ_ex, thenQ_bk, thenQ_ct, setQ_ok, setQ_ex, retQ_ok, retQ_ex, dropQ_ok, dropQ_ex, fldQ_ok, bodyQ_nx, bodyQ_ct, bodyQ_bk, bodyQ_rt, bodyQ_ex, endQ_rt, endQ_nx, endQ_ex, mE_eq, mMv_eq, mV, mNoex, p_V, pC, pU, pO, pN, aNil, aCons, p_B', asB_bl, bNot, bAnd, bOr, pIf, pB, p_ch, qv_add, qv_addA, qv_addL, qv_sub, qv_mul, qv_mulL, qv_div, qv_mod, qv_pow, qv_shl, qv_shr, qv_lt, qv_le, qv_gt, qv_ge, qv_neg, qv_eqI, qv_neI, qv_eqB, qv_neB, qv_ix, qv_ixT, qv_ixR, qv_len, qv_lenT, qv_lenR, qv_abs, qv_int, qv_intB, qv_max2, qv_min2, qv_rg1, qv_rg2, qv_items, qv_itemsT, qv_itemsR, qv_lst, qv_lstR, qv_isN0, qv_isNI, qv_isNL, qv_isNT, qv_noN0, qv_noNI, qv_noNL, qv_noNT, pFld, iL, iT, iN, p_E, sc_int, sc_bl, sc_non, eF, eV, esNil, esCons, eLst, eTup, eN, eAddA, eIf, fLst, fSl, oP, fList, fCat, fRep, pF, pLst, pTup, pSl, gN, gT, gsNil, gsCons, bN, lf, bYes, finE, leaf, getS, getP, getFd, setP, setFd, setF, putE, plSlot, lenE, appE, asL, setE, toD, frz, frzAll, leafE, wipeE, kids, ex_bind, ex_map, ex_if, ex_some, List.getElem?_cons_zero, List.getElem?_cons_succ, List.set_cons_zero, List.set_cons_succ, List.length_cons, List.length_nil, List.length_map, List.map_cons, List.map_nil, List.cons_append, List.nil_append, Option.bind_some, Option.map_some, Option.bind_none, Option.map_none, Option.some.injEq, exists_eq_left, exists_eq_left', and_true, true_and, Et.n.injEq, Et.o.injEq, Et.fl.injEq, Dt.int.injEq, Dt.bl.injEq, decide_eq_true_eq, decide_eq_false_iff_not, forall_const, if_true, if_false, Bool.false_eq_true, reduceIte, List.replicate_succ, List.replicate_zero, true_implies, false_implies, reduceCtorEq, Fz.ok.injEq, List.cons.injEq, atI_map, List.length_append, appE_fl, snoc_i, fLc, cutD_map, sIx_no, all_sc, map_app, rep_fl, rep_int, intsOf_m, qv_min, qv_max, qv_sum, wp_loop0, sc_lst, sc_tup, sc_ob, mMeth, mMethT, tempOk, eMk, eM, pM, obOk, lentOk, own, owns, Bool.and_true, Bool.true_and, Bool.not_true, Bool.not_false, Bool.not_eq_true, Bool.not_eq_false, Bool.not_eq_eq_eq_not]
    have ej : (1 + (j : Int) * 1).toNat = j + 1 := by omega
    rw [befo_P (m := m) (j := 1 + (j : Int) * 1) (by omega) (by omega) (by omega), ej]
    simp -implicitDefEqProofs (maxSteps := 3000000) only [wp_seq, wp_if, wp_set, wp_ret, wp_drop, wp_app, wp_for, wp_forL, wp_frz, wp_aug, wp_fld, wp_fldA, wp_setL, wp_nil, wp_brk, wp_cont, wp_retN, thenQ_nx, thenQ_rt, thenQ_ex, thenQ_bk, thenQ_ct, setQ_ok, setQ_ex, retQ_ok, retQ_ex, dropQ_ok, dropQ_ex, fldQ_ok, bodyQ_nx, bodyQ_ct, bodyQ_bk, bodyQ_rt, bodyQ_ex, endQ_rt, endQ_nx, endQ_ex, mE_eq, mMv_eq, mV, mNoex, p_V, pC, pU, pO, pN, aNil, aCons, p_B', asB_bl, bNot, bAnd, bOr, pIf, pB, p_ch, qv_add, qv_addA, qv_addL, qv_sub, qv_mul, qv_mulL, qv_div, qv_mod, qv_pow, qv_shl, qv_shr, qv_lt, qv_le, qv_gt, qv_ge, qv_neg, qv_eqI, qv_neI, qv_eqB, qv_neB, qv_ix, qv_ixT, qv_ixR, qv_len, qv_lenT, qv_lenR, qv_abs, qv_int, qv_intB, qv_max2, qv_min2, qv_rg1, qv_rg2, qv_items, qv_itemsT, qv_itemsR, qv_lst, qv_lstR, qv_isN0, qv_isNI, qv_isNL, qv_isNT, qv_noN0, qv_noNI, qv_noNL, qv_noNT, pFld, iL, iT, iN, p_E, sc_int, sc_bl, sc_non, eF, eV, esNil, esCons, eLst, eTup, eN, eAddA, eIf, fLst, fSl, oP, fList, fCat, fRep, pF, pLst, pTup, pSl, gN, gT, gsNil, gsCons, bN, lf, bYes, finE, leaf, getS, getP, getFd, setP, setFd, setF, putE, plSlot, lenE, appE, asL, setE, toD, frz, frzAll, leafE, wipeE, kids, ex_bind, ex_map, ex_if, ex_some, List.getElem?_cons_zero, List.getElem?_cons_succ, List.set_cons_zero, List.set_cons_succ, List.length_cons, List.length_nil, List.length_map, List.map_cons, List.map_nil, List.cons_append, List.nil_append, Option.bind_some, Option.map_some, Option.bind_none, Option.map_none, Option.some.injEq, exists_eq_left, exists_eq_left', and_true, true_and, Et.n.injEq, Et.o.injEq, Et.fl.injEq, Dt.int.injEq, Dt.bl.injEq, decide_eq_true_eq, decide_eq_false_iff_not, forall_const, if_true, if_false, Bool.false_eq_true, reduceIte, List.replicate_succ, List.replicate_zero, true_implies, false_implies, reduceCtorEq, Fz.ok.injEq, List.cons.injEq, atI_map, List.length_append, appE_fl, snoc_i, fLc, cutD_map, sIx_no, all_sc, map_app, rep_fl, rep_int, intsOf_m, qv_min, qv_max, qv_sum, wp_loop0, sc_lst, sc_tup, sc_ob, mMeth, mMethT, tempOk, eMk, eM, pM, obOk, lentOk, own, owns, Bool.and_true, Bool.true_and, Bool.not_true, Bool.not_false, Bool.not_eq_true, Bool.not_eq_false, Bool.not_eq_eq_eq_not]
    exact dist_P (by rw [befo_len (by omega)]) (by omega)
  · simp -implicitDefEqProofs (maxSteps := 3000000) only [wp_seq, wp_if, wp_set, wp_ret, wp_drop, wp_app, wp_for, wp_forL, wp_frz, wp_aug, wp_fld, wp_fldA, wp_setL, wp_nil, wp_brk, wp_cont, wp_retN, thenQ_nx, thenQ_rt, thenQ_ex, thenQ_bk, thenQ_ct, setQ_ok, setQ_ex, retQ_ok, retQ_ex, dropQ_ok, dropQ_ex, fldQ_ok, bodyQ_nx, bodyQ_ct, bodyQ_bk, bodyQ_rt, bodyQ_ex, endQ_rt, endQ_nx, endQ_ex, mE_eq, mMv_eq, mV, mNoex, p_V, pC, pU, pO, pN, aNil, aCons, p_B', asB_bl, bNot, bAnd, bOr, pIf, pB, p_ch, qv_add, qv_addA, qv_addL, qv_sub, qv_mul, qv_mulL, qv_div, qv_mod, qv_pow, qv_shl, qv_shr, qv_lt, qv_le, qv_gt, qv_ge, qv_neg, qv_eqI, qv_neI, qv_eqB, qv_neB, qv_ix, qv_ixT, qv_ixR, qv_len, qv_lenT, qv_lenR, qv_abs, qv_int, qv_intB, qv_max2, qv_min2, qv_rg1, qv_rg2, qv_items, qv_itemsT, qv_itemsR, qv_lst, qv_lstR, qv_isN0, qv_isNI, qv_isNL, qv_isNT, qv_noN0, qv_noNI, qv_noNL, qv_noNT, pFld, iL, iT, iN, p_E, sc_int, sc_bl, sc_non, eF, eV, esNil, esCons, eLst, eTup, eN, eAddA, eIf, fLst, fSl, oP, fList, fCat, fRep, pF, pLst, pTup, pSl, gN, gT, gsNil, gsCons, bN, lf, bYes, finE, leaf, getS, getP, getFd, setP, setFd, setF, putE, plSlot, lenE, appE, asL, setE, toD, frz, frzAll, leafE, wipeE, kids, ex_bind, ex_map, ex_if, ex_some, List.getElem?_cons_zero, List.getElem?_cons_succ, List.set_cons_zero, List.set_cons_succ, List.length_cons, List.length_nil, List.length_map, List.map_cons, List.map_nil, List.cons_append, List.nil_append, Option.bind_some, Option.map_some, Option.bind_none, Option.map_none, Option.some.injEq, exists_eq_left, exists_eq_left', and_true, true_and, Et.n.injEq, Et.o.injEq, Et.fl.injEq, Dt.int.injEq, Dt.bl.injEq, decide_eq_true_eq, decide_eq_false_iff_not, forall_const, if_true, if_false, Bool.false_eq_true, reduceIte, List.replicate_succ, List.replicate_zero, true_implies, false_implies, reduceCtorEq, Fz.ok.injEq, List.cons.injEq, atI_map, List.length_append, appE_fl, snoc_i, fLc, cutD_map, sIx_no, all_sc, map_app, rep_fl, rep_int, intsOf_m, qv_min, qv_max, qv_sum, wp_loop0, sc_lst, sc_tup, sc_ob, mMeth, mMethT, tempOk, eMk, eM, pM, obOk, lentOk, own, owns, Bool.and_true, Bool.true_and, Bool.not_true, Bool.not_false, Bool.not_eq_true, Bool.not_eq_false, Bool.not_eq_eq_eq_not]
    exact ⟨by rw [sz]; simp [guardL]; omega, _, minL_some (guardL_ne h1), rfl⟩
theorem dist_symm {xs ys : List Int} (h : xs.length = ys.length) : dist xs ys = dist ys xs := by
  unfold dist
  rw [h]
  congr 1
  apply List.filter_congr
  intro k _
  simp only [ne_eq, decide_eq_decide]
  exact ⟨fun h e => h e.symm, fun h e => h e.symm⟩
theorem dist_self {xs : List Int} : dist xs xs = 0 := by simp [dist]
theorem getD_eq {xs ys : List Int} (hl : xs.length = ys.length) (h : ∀ k, k < xs.length → xs.getD k 0 = ys.getD k 0) : xs = ys := by
  apply List.ext_getElem hl
  intro k h1 h2
  have := h k h1
  simpa [List.getD, h1, h2] using this
theorem befo_getD {m : List Int} {j k : Nat} (hj : j ≤ m.length) (hk : k < m.length) : (befo m j).getD k 0 = if k < j then 0 else m.getD (k - j) 0 := by
  unfold befo
  simp only [List.getD, List.getElem?_append, List.length_replicate]
  by_cases c : k < j
  · simp [c]
  · rw [if_neg c, if_neg c, List.getElem?_take_of_lt (by omega)]
theorem init_E {m : List Int} {t p : Int} (h1 : 1 ≤ m.length) (h2 : m.length ≤ 32) : mkd 0 sem_Finder___init__ [di m, .int t, .int p] = some (fob (m.map .int) t p [] 0 false) := by
  have e : sem_Finder___init__ [.ob 0 [], .o (di m), .o (.int t), .o (.int p)] = some (.ok (.n .non) [fob (m.map .int) t p [] 0 false, .o (di m), .o (.int t), .o (.int p)]) := by
    refine fn_eq rfl ?_
    unfold c_Finder___init__ di
    simp -implicitDefEqProofs (maxSteps := 3000000) only [wp_seq, wp_if, wp_set, wp_ret, wp_drop, wp_app, wp_for, wp_forL, wp_frz, wp_aug, wp_fld, wp_fldA, wp_setL, wp_nil, wp_brk, wp_cont, wp_retN, thenQ_nx, thenQ_rt, thenQ_ex, thenQ_bk, thenQ_ct, setQ_ok, setQ_ex, retQ_ok, retQ_ex, dropQ_ok, dropQ_ex, fldQ_ok, bodyQ_nx, bodyQ_ct, bodyQ_bk, bodyQ_rt, bodyQ_ex, endQ_rt, endQ_nx, endQ_ex, mE_eq, mMv_eq, mV, mNoex, p_V, pC, pU, pO, pN, aNil, aCons, p_B', asB_bl, bNot, bAnd, bOr, pIf, pB, p_ch, qv_add, qv_addA, qv_addL, qv_sub, qv_mul, qv_mulL, qv_div, qv_mod, qv_pow, qv_shl, qv_shr, qv_lt, qv_le, qv_gt, qv_ge, qv_neg, qv_eqI, qv_neI, qv_eqB, qv_neB, qv_ix, qv_ixT, qv_ixR, qv_len, qv_lenT, qv_lenR, qv_abs, qv_int, qv_intB, qv_max2, qv_min2, qv_rg1, qv_rg2, qv_items, qv_itemsT, qv_itemsR, qv_lst, qv_lstR, qv_isN0, qv_isNI, qv_isNL, qv_isNT, qv_noN0, qv_noNI, qv_noNL, qv_noNT, pFld, iL, iT, iN, p_E, sc_int, sc_bl, sc_non, eF, eV, esNil, esCons, eLst, eTup, eN, eAddA, eIf, fLst, fSl, oP, fList, fCat, fRep, pF, pLst, pTup, pSl, gN, gT, gsNil, gsCons, bN, lf, bYes, finE, leaf, getS, getP, getFd, setP, setFd, setF, putE, plSlot, lenE, appE, asL, setE, toD, frz, frzAll, leafE, wipeE, kids, ex_bind, ex_map, ex_if, ex_some, List.getElem?_cons_zero, List.getElem?_cons_succ, List.set_cons_zero, List.set_cons_succ, List.length_cons, List.length_nil, List.length_map, List.map_cons, List.map_nil, List.cons_append, List.nil_append, Option.bind_some, Option.map_some, Option.bind_none, Option.map_none, Option.some.injEq, exists_eq_left, exists_eq_left', and_true, true_and, Et.n.injEq, Et.o.injEq, Et.fl.injEq, Dt.int.injEq, Dt.bl.injEq, decide_eq_true_eq, decide_eq_false_iff_not, forall_const, if_true, if_false, Bool.false_eq_true, reduceIte, List.replicate_succ, List.replicate_zero, true_implies, false_implies, reduceCtorEq, Fz.ok.injEq, List.cons.injEq, atI_map, List.length_append, appE_fl, snoc_i, fLc, cutD_map, sIx_no, all_sc, map_app, rep_fl, rep_int, intsOf_m, qv_min, qv_max, qv_sum, wp_loop0, sc_lst, sc_tup, sc_ob, mMeth, mMethT, tempOk, eMk, eM, pM, obOk, lentOk, own, owns, Bool.and_true, Bool.true_and, Bool.not_true, Bool.not_false, Bool.not_eq_true, Bool.not_eq_false, Bool.not_eq_eq_eq_not, toDs, Nat.reduceAdd, Nat.reduceLT, List.all_nil, Nat.reduceEqDiff, Nat.reduceSub, Nat.reduceMul, Int.reduceLT, Int.reduceLE, Int.reduceAdd, Int.reduceSub, Int.reduceMul, Int.reduceNeg, Int.reduceToNat, Nat.lt_irrefl, Nat.zero_le, Nat.not_lt_zero, Nat.zero_lt_succ]
    exact ⟨_, chk_E h1 h2⟩
  unfold mkd
  rw [show (List.map Et.o [di m, .int t, .int p]) = [.o (di m), .o (.int t), .o (.int p)] from rfl, e]
  rfl
theorem inB_i {xs : List Int} : ∀ x ∈ xs.map Dt.int, inB x = true := fun x hx => by
  obtain ⟨i, _, rfl⟩ := List.mem_map.mp hx
  rfl
theorem dist_D {xs ys : List Int} (h : xs.length = ys.length) : distD (xs.map .int) (ys.map .int) = dist xs ys := by
  unfold distD dist
  rw [List.length_map]
  congr 1
  apply List.filter_congr
  intro k hk
  have hk : k < xs.length := by simpa using hk
  simp [List.getD, hk, show k < ys.length by omega, neS]
end T32
namespace T32
open PySem PySem.Spec PyProof.Rows L2 Qs
variable [CTab]
theorem atI_last {α : Type} {xs : List α} (h : 1 ≤ xs.length) : atI xs (-1) = xs[xs.length - 1]? := by
  unfold atI ixN
  rw [if_neg (by omega), if_pos (by omega), Option.bind_some]
  congr 1
  omega
abbrev dl (Ps : List (List Int)) : Dt := .lst (Ps.map di)
def segs (m : List Int) (l : List (List Int × Int)) : List Int := (l.map fun q => List.replicate q.2.toNat 0 ++ m ++ q.1).flatten
theorem segs_app {m : List Int} {l r : List (List Int × Int)} : segs m (l ++ r) = segs m l ++ segs m r := by simp [segs]
theorem segs_one {m P : List Int} {i : Int} : segs m [(P, i)] = List.replicate i.toNat 0 ++ m ++ P := by simp [segs]
theorem zip_dt : ∀ {Ps : List (List Int)} {Is : List Int}, (Ps.map di).zipWith (fun p q => Dt.tup [p, q]) (Is.map .int) = (Ps.zip Is).map fun q => .tup [di q.1, .int q.2]
  | [], _ => by simp
  | _ :: _, [] => by simp
  | P :: Ps, i :: Is => by
    simp only [List.map_cons, List.zipWith_cons_cons, List.zip_cons_cons]
    rw [zip_dt]
theorem lineG_E {m : List Int} {Ps : List (List Int)} {Is : List Int} (h1 : 1 ≤ m.length) (h2 : m.length ≤ 32) (hl : Is.length = Ps.length + 1) (h0 : ∀ i ∈ Is, 0 ≤ i ∧ i < 100000) (hs : (segs m (Ps.zip Is)).length < 1000000) (hl2 : Is.length < 100000) (hP : ∀ P ∈ Ps, P.length < 100000) :
    cE sem_line_of [di m, dl Ps, di Is] = some (.fl ((segs m (Ps.zip Is) ++ List.replicate (Is.getD Ps.length 0).toNat 0).map .int)) := by
  refine cE_of (es := [.o (di m), .o (dl Ps), .o (di Is)]) (fn_eq rfl ?_)
  unfold c_line_of
  simp -implicitDefEqProofs (maxSteps := 3000000) only [wp_seq, wp_if, wp_set, wp_ret, wp_drop, wp_app, wp_for, wp_forL, wp_frz, wp_aug, wp_fld, wp_fldA, wp_setL, wp_nil, wp_brk, wp_cont, wp_retN, thenQ_nx, thenQ_rt, thenQ_ex, thenQ_bk, thenQ_ct, setQ_ok, setQ_ex, retQ_ok, retQ_ex, dropQ_ok, dropQ_ex, fldQ_ok, bodyQ_nx, bodyQ_ct, bodyQ_bk, bodyQ_rt, bodyQ_ex, endQ_rt, endQ_nx, endQ_ex, mE_eq, mMv_eq, mV, mNoex, p_V, pC, pU, pO, pN, aNil, aCons, p_B', asB_bl, bNot, bAnd, bOr, pIf, pB, p_ch, qv_add, qv_addA, qv_addL, qv_sub, qv_mul, qv_mulL, qv_div, qv_mod, qv_pow, qv_shl, qv_shr, qv_lt, qv_le, qv_gt, qv_ge, qv_neg, qv_eqI, qv_neI, qv_eqB, qv_neB, qv_ix, qv_ixT, qv_ixR, qv_len, qv_lenT, qv_lenR, qv_abs, qv_int, qv_intB, qv_max2, qv_min2, qv_rg1, qv_rg2, qv_items, qv_itemsT, qv_itemsR, qv_lst, qv_lstR, qv_isN0, qv_isNI, qv_isNL, qv_isNT, qv_noN0, qv_noNI, qv_noNL, qv_noNT, pFld, iL, iT, iN, p_E, sc_int, sc_bl, sc_non, eF, eV, esNil, esCons, eLst, eTup, eN, eAddA, eIf, fLst, fSl, oP, fList, fCat, fRep, pF, pLst, pTup, pSl, gN, gT, gsNil, gsCons, bN, lf, bYes, finE, leaf, getS, getP, getFd, setP, setFd, setF, putE, plSlot, lenE, appE, asL, setE, toD, frz, frzAll, leafE, wipeE, kids, ex_bind, ex_map, ex_if, ex_some, List.getElem?_cons_zero, List.getElem?_cons_succ, List.set_cons_zero, List.set_cons_succ, List.length_cons, List.length_nil, List.length_map, List.map_cons, List.map_nil, List.cons_append, List.nil_append, Option.bind_some, Option.map_some, Option.bind_none, Option.map_none, Option.some.injEq, exists_eq_left, exists_eq_left', and_true, true_and, Et.n.injEq, Et.o.injEq, Et.fl.injEq, Dt.int.injEq, Dt.bl.injEq, decide_eq_true_eq, decide_eq_false_iff_not, forall_const, if_true, if_false, Bool.false_eq_true, reduceIte, List.replicate_succ, List.replicate_zero, true_implies, false_implies, reduceCtorEq, Fz.ok.injEq, List.cons.injEq, atI_map, List.length_append, appE_fl, snoc_i, fLc, cutD_map, sIx_no, all_sc, map_app, rep_fl, rep_int, intsOf_m, qv_min, qv_max, qv_sum, wp_loop0, sc_lst, sc_tup, sc_ob, mMeth, mMethT, tempOk, eMk, eM, pM, obOk, lentOk, own, owns, Bool.and_true, Bool.true_and, Bool.not_true, Bool.not_false, Bool.not_eq_true, Bool.not_eq_false, Bool.not_eq_eq_eq_not, toDs, Nat.reduceAdd, Nat.reduceLT, List.all_nil, Nat.reduceEqDiff, Nat.reduceSub, Nat.reduceMul, Int.reduceLT, Int.reduceLE, Int.reduceAdd, Int.reduceSub, Int.reduceMul, Int.reduceNeg, Int.reduceToNat, Nat.lt_irrefl, Nat.zero_le, Nat.not_lt_zero, Nat.zero_lt_succ]
  refine ⟨_, chk_E h1 h2, fun h => absurd (by rw [hl]; simp) h, fun _ => ⟨(Ps.zip Is).map fun q => .tup [di q.1, .int q.2], congrArg some zip_dt, ?_⟩⟩
  refine wp_loop (fun ds ρ => ∃ (u v : List (List Int × Int)) (a b : Option Et), Ps.zip Is = u ++ v ∧ ds = v.map (fun q => Dt.tup [di q.1, .int q.2]) ∧ ρ = [some (.o (di m)), some (.o (dl Ps)), some (.o (di Is)), some (.fl ((segs m u).map .int)), a, b]) _ _ ⟨[], Ps.zip Is, none, none, rfl, rfl, rfl⟩ ?_ ?_
  · rintro d rest ρ ⟨u, v, a, b, e1, e2, rfl⟩
    cases v with
    | nil => cases e2
    | cons q v =>
      rw [List.map_cons, List.cons.injEq] at e2
      obtain ⟨rfl, rfl⟩ := e2
      have hq : q ∈ Ps.zip Is := by rw [e1]; simp
      have q1 := hP _ (List.of_mem_zip hq).1
      have q2 := h0 _ (List.of_mem_zip hq).2
      have e3 : segs m (u ++ [q]) = segs m u ++ (List.replicate q.2.toNat 0 ++ m ++ q.1) := by rw [segs_app]; simp [segs]
      have ls : (segs m u).length + (q.2.toNat + m.length + q.1.length) < 1000000 := by
        have : (segs m (Ps.zip Is)).length = (segs m u).length + (q.2.toNat + m.length + q.1.length) + (segs m v).length := by
          rw [e1, show u ++ q :: v = (u ++ [q]) ++ v by simp, segs_app, e3]
          simp
          omega
        omega
      unfold di at *
      simp -implicitDefEqProofs (maxSteps := 3000000) only [wp_seq, wp_if, wp_set, wp_ret, wp_drop, wp_app, wp_for, wp_forL, wp_frz, wp_aug, wp_fld, wp_fldA, wp_setL, wp_nil, wp_brk, wp_cont, wp_retN, thenQ_nx, thenQ_rt, thenQ_ex, thenQ_bk, thenQ_ct, setQ_ok, setQ_ex, retQ_ok, retQ_ex, dropQ_ok, dropQ_ex, fldQ_ok, bodyQ_nx, bodyQ_ct, bodyQ_bk, bodyQ_rt, bodyQ_ex, endQ_rt, endQ_nx, endQ_ex, mE_eq, mMv_eq, mV, mNoex, p_V, pC, pU, pO, pN, aNil, aCons, p_B', asB_bl, bNot, bAnd, bOr, pIf, pB, p_ch, qv_add, qv_addA, qv_addL, qv_sub, qv_mul, qv_mulL, qv_div, qv_mod, qv_pow, qv_shl, qv_shr, qv_lt, qv_le, qv_gt, qv_ge, qv_neg, qv_eqI, qv_neI, qv_eqB, qv_neB, qv_ix, qv_ixT, qv_ixR, qv_len, qv_lenT, qv_lenR, qv_abs, qv_int, qv_intB, qv_max2, qv_min2, qv_rg1, qv_rg2, qv_items, qv_itemsT, qv_itemsR, qv_lst, qv_lstR, qv_isN0, qv_isNI, qv_isNL, qv_isNT, qv_noN0, qv_noNI, qv_noNL, qv_noNT, pFld, iL, iT, iN, p_E, sc_int, sc_bl, sc_non, eF, eV, esNil, esCons, eLst, eTup, eN, eAddA, eIf, fLst, fSl, oP, fList, fCat, fRep, pF, pLst, pTup, pSl, gN, gT, gsNil, gsCons, bN, lf, bYes, finE, leaf, getS, getP, getFd, setP, setFd, setF, putE, plSlot, lenE, appE, asL, setE, toD, frz, frzAll, leafE, wipeE, kids, ex_bind, ex_map, ex_if, ex_some, List.getElem?_cons_zero, List.getElem?_cons_succ, List.set_cons_zero, List.set_cons_succ, List.length_cons, List.length_nil, List.length_map, List.map_cons, List.map_nil, List.cons_append, List.nil_append, Option.bind_some, Option.map_some, Option.bind_none, Option.map_none, Option.some.injEq, exists_eq_left, exists_eq_left', and_true, true_and, Et.n.injEq, Et.o.injEq, Et.fl.injEq, Dt.int.injEq, Dt.bl.injEq, decide_eq_true_eq, decide_eq_false_iff_not, forall_const, if_true, if_false, Bool.false_eq_true, reduceIte, List.replicate_succ, List.replicate_zero, true_implies, false_implies, reduceCtorEq, Fz.ok.injEq, List.cons.injEq, atI_map, List.length_append, appE_fl, snoc_i, fLc, cutD_map, sIx_no, all_sc, map_app, rep_fl, rep_int, intsOf_m, qv_min, qv_max, qv_sum, wp_loop0, sc_lst, sc_tup, sc_ob, mMeth, mMethT, tempOk, eMk, eM, pM, obOk, lentOk, own, owns, Bool.and_true, Bool.true_and, Bool.not_true, Bool.not_false, Bool.not_eq_true, Bool.not_eq_false, Bool.not_eq_eq_eq_not, toDs, Nat.reduceAdd, Nat.reduceLT, List.all_nil, Nat.reduceEqDiff, Nat.reduceSub, Nat.reduceMul, Int.reduceLT, Int.reduceLE, Int.reduceAdd, Int.reduceSub, Int.reduceMul, Int.reduceNeg, Int.reduceToNat, Nat.lt_irrefl, Nat.zero_le, Nat.not_lt_zero, Nat.zero_lt_succ, sz]
      have r1 : (List.replicate q.2.toNat (0 : Int)).length = q.2.toNat := by simp
      rw [r1]
      refine ⟨by omega, by omega, by omega, by omega, by omega, u ++ [q], v, _, _, by rw [e1]; simp, rfl, ?_, rfl, rfl⟩
      rw [e3]
      simp
  · rintro ρ ⟨u, v, a, b, e1, e2, rfl⟩
    have ev : v = [] := by
      cases v with
      | nil => rfl
      | cons _ _ => cases e2
    subst ev
    rw [List.append_nil] at e1
    have el : atI Is (-1) = some (Is.getD Ps.length 0) := by
      rw [atI_last (by omega), hl]
      simp [List.getD, hl]
    have hb : 0 ≤ Is.getD Ps.length 0 ∧ Is.getD Ps.length 0 < 100000 := h0 _ (by
      have : Ps.length < Is.length := by omega
      simp [List.getD, this])
    unfold di at *
    simp -implicitDefEqProofs (maxSteps := 3000000) only [wp_seq, wp_if, wp_set, wp_ret, wp_drop, wp_app, wp_for, wp_forL, wp_frz, wp_aug, wp_fld, wp_fldA, wp_setL, wp_nil, wp_brk, wp_cont, wp_retN, thenQ_nx, thenQ_rt, thenQ_ex, thenQ_bk, thenQ_ct, setQ_ok, setQ_ex, retQ_ok, retQ_ex, dropQ_ok, dropQ_ex, fldQ_ok, bodyQ_nx, bodyQ_ct, bodyQ_bk, bodyQ_rt, bodyQ_ex, endQ_rt, endQ_nx, endQ_ex, mE_eq, mMv_eq, mV, mNoex, p_V, pC, pU, pO, pN, aNil, aCons, p_B', asB_bl, bNot, bAnd, bOr, pIf, pB, p_ch, qv_add, qv_addA, qv_addL, qv_sub, qv_mul, qv_mulL, qv_div, qv_mod, qv_pow, qv_shl, qv_shr, qv_lt, qv_le, qv_gt, qv_ge, qv_neg, qv_eqI, qv_neI, qv_eqB, qv_neB, qv_ix, qv_ixT, qv_ixR, qv_len, qv_lenT, qv_lenR, qv_abs, qv_int, qv_intB, qv_max2, qv_min2, qv_rg1, qv_rg2, qv_items, qv_itemsT, qv_itemsR, qv_lst, qv_lstR, qv_isN0, qv_isNI, qv_isNL, qv_isNT, qv_noN0, qv_noNI, qv_noNL, qv_noNT, pFld, iL, iT, iN, p_E, sc_int, sc_bl, sc_non, eF, eV, esNil, esCons, eLst, eTup, eN, eAddA, eIf, fLst, fSl, oP, fList, fCat, fRep, pF, pLst, pTup, pSl, gN, gT, gsNil, gsCons, bN, lf, bYes, finE, leaf, getS, getP, getFd, setP, setFd, setF, putE, plSlot, lenE, appE, asL, setE, toD, frz, frzAll, leafE, wipeE, kids, ex_bind, ex_map, ex_if, ex_some, List.getElem?_cons_zero, List.getElem?_cons_succ, List.set_cons_zero, List.set_cons_succ, List.length_cons, List.length_nil, List.length_map, List.map_cons, List.map_nil, List.cons_append, List.nil_append, Option.bind_some, Option.map_some, Option.bind_none, Option.map_none, Option.some.injEq, exists_eq_left, exists_eq_left', and_true, true_and, Et.n.injEq, Et.o.injEq, Et.fl.injEq, Dt.int.injEq, Dt.bl.injEq, decide_eq_true_eq, decide_eq_false_iff_not, forall_const, if_true, if_false, Bool.false_eq_true, reduceIte, List.replicate_succ, List.replicate_zero, true_implies, false_implies, reduceCtorEq, Fz.ok.injEq, List.cons.injEq, atI_map, List.length_append, appE_fl, snoc_i, fLc, cutD_map, sIx_no, all_sc, map_app, rep_fl, rep_int, intsOf_m, qv_min, qv_max, qv_sum, wp_loop0, sc_lst, sc_tup, sc_ob, mMeth, mMethT, tempOk, eMk, eM, pM, obOk, lentOk, own, owns, Bool.and_true, Bool.true_and, Bool.not_true, Bool.not_false, Bool.not_eq_true, Bool.not_eq_false, Bool.not_eq_eq_eq_not, toDs, Nat.reduceAdd, Nat.reduceLT, List.all_nil, Nat.reduceEqDiff, Nat.reduceSub, Nat.reduceMul, Int.reduceLT, Int.reduceLE, Int.reduceAdd, Int.reduceSub, Int.reduceMul, Int.reduceNeg, Int.reduceToNat, Nat.lt_irrefl, Nat.zero_le, Nat.not_lt_zero, Nat.zero_lt_succ, sz, el]
    rw [← e1]
    have r2 : (List.replicate (Is.getD Ps.length 0).toNat (0 : Int)).length = (Is.getD Ps.length 0).toNat := by simp
    rw [r2]
    exact ⟨by omega, ⟨by omega, by omega, by omega⟩, by omega, rfl⟩
end T32
namespace T32
open PySem PySem.Spec PyProof.Rows L2 Qs
variable [CTab]
def ownS (b : Bool) : Dt := if b = true then .str "payload" else .str "idle"
theorem ownS_eq (b : Bool) : sEq (ownS b) (.str "payload") = some (.bl b) := by
  have e1 : eqD (.str "idle") (.str "payload") = some false := by decide +kernel
  have e2 : eqD (.str "payload") (.str "payload") = some true := by decide +kernel
  cases b
  · show (eqD (.str "idle") (.str "payload")).map Dt.bl = _
    rw [e1]
    rfl
  · show (eqD (.str "payload") (.str "payload")).map Dt.bl = _
    rw [e2]
    rfl
theorem qv_xor {i j : Int} : sXor (.int i) (.int j) = some (.int (Builtin.bitXor i j)) := rfl
def flL (L R : List Int) (a b : Nat) : List Int := (List.range (b - a)).map fun q => if R.getD (a + q) 0 ≠ L.getD (a + q) 0 then (1 : Int) else 0
def cnt (L R : List Int) (a b : Nat) : Int := (flL L R a b).sum
theorem flL_len {L R : List Int} {a b : Nat} : (flL L R a b).length = b - a := by simp [flL]
theorem flL_nil {L R : List Int} {a : Nat} : flL L R a a = [] := by simp [flL]
theorem flL_congr {L R R' : List Int} {a b : Nat} (h : ∀ x, a ≤ x → x < b → R'.getD x 0 = R.getD x 0) : flL L R' a b = flL L R a b := by
  unfold flL
  apply List.map_congr_left
  intro q hq
  have hq : q < b - a := by simpa using hq
  rw [h (a + q) (by omega) (by omega)]
theorem flL_snoc {L R : List Int} {a b : Nat} (h : a ≤ b) : flL L R a (b + 1) = flL L R a b ++ [if R.getD b 0 ≠ L.getD b 0 then (1 : Int) else 0] := by
  unfold flL
  rw [show b + 1 - a = (b - a) + 1 by omega, List.range_succ, List.map_append, List.map_cons, List.map_nil, show a + (b - a) = b by omega]
theorem flL_drop {L R : List Int} {a b k : Nat} (h : a + k ≤ b) : (flL L R a b).drop k = flL L R (a + k) b := by
  apply List.ext_getElem
  · simp [flL]; omega
  · intro i h1 h2
    simp [flL, Nat.add_assoc]
theorem flL_nn {L R : List Int} {a b : Nat} : ∀ x ∈ flL L R a b, 0 ≤ x ∧ x ≤ 1 := by
  intro x hx
  obtain ⟨q, _, rfl⟩ := List.mem_map.mp hx
  by_cases c : R.getD (a + q) 0 ≠ L.getD (a + q) 0
  · rw [if_pos c]; omega
  · rw [if_neg c]; omega
theorem sum_nn {xs : List Int} (h : ∀ x ∈ xs, 0 ≤ x ∧ x ≤ 1) : 0 ≤ xs.sum := by
  induction xs with
  | nil => exact Int.le_refl _
  | cons x xs ih =>
    rw [List.sum_cons]
    have := ih fun y hy => h y (by simp [hy])
    have := h x (by simp)
    omega
theorem cnt_mono {L R : List Int} {a b c : Nat} (h : a ≤ b) (h2 : b ≤ c) : cnt L R b c ≤ cnt L R a c := by
  unfold cnt
  have e : flL L R b c = (flL L R a c).drop (b - a) := by rw [flL_drop (by omega), show a + (b - a) = b by omega]
  have e2 := List.take_append_drop (b - a) (flL L R a c)
  have e3 : (flL L R a c).sum = ((flL L R a c).take (b - a)).sum + ((flL L R a c).drop (b - a)).sum := by
    conv => lhs; rw [← e2]
    rw [List.sum_append]
  have := sum_nn (xs := (flL L R a c).take (b - a)) fun x hx => flL_nn x (List.mem_of_mem_take hx)
  rw [e, e3]
  omega
theorem cnt_snoc {L R : List Int} {a b : Nat} (h : a ≤ b) : cnt L R a (b + 1) = cnt L R a b + if R.getD b 0 ≠ L.getD b 0 then (1 : Int) else 0 := by
  unfold cnt
  rw [flL_snoc h, List.sum_append]
  simp
theorem sIx_neg {n d : Nat} {k : Nat} (h : 1 ≤ k) : HT.sIx n d (some (-(k : Int))) = n - k := by
  show (if -(k : Int) < 0 then _ else _) = _
  rw [if_pos (by omega)]
  omega
def Wn (L R : List Int) (O : List Bool) (n : Nat) (T : Int) (i : Nat) : Prop := ∀ a b, a ≤ b → b ≤ i → b - a ≤ n → (∀ x, a ≤ x → x < b → O.getD x false = false) → cnt L R a b ≤ T
theorem set_getD {R : List Int} {i x : Nat} {v : Int} (h : x ≠ i) : (R.set i v).getD x 0 = R.getD x 0 := by
  simp only [List.getD]
  rw [List.getElem?_set_ne (Ne.symm h)]
theorem set_at {R : List Int} {i : Nat} {v : Int} (h : i < R.length) : (R.set i v).getD i 0 = v := by
  simp only [List.getD, List.getElem?_set_self h, Option.getD_some]
theorem mapset {xs : List Int} {j : Nat} {v : Int} : (xs.map Dt.int).set j (.int v) = (xs.set j v).map .int := by rw [List.map_set]
theorem Wn_step {L R R' : List Int} {O : List Bool} {n i : Nat} {T : Int} (hT : 0 ≤ T) (hag : ∀ x, x < i → R'.getD x 0 = R.getD x 0) (hW : Wn L R O n T i)
    (hk : ∀ a, a ≤ i → i + 1 - a ≤ n → (∀ x, a ≤ x → x < i + 1 → O.getD x false = false) → cnt L R a i + (if R'.getD i 0 ≠ L.getD i 0 then (1 : Int) else 0) ≤ T) : Wn L R' O n T (i + 1) := by
  intro a b h1 h2 h3 h4
  have cg : ∀ a b, b ≤ i → cnt L R' a b = cnt L R a b := fun a b hb => by
    unfold cnt
    rw [flL_congr fun x _ hx => hag x (by omega)]
  by_cases hb : b = i + 1
  · subst hb
    by_cases ha : a = i + 1
    · subst ha
      simpa [cnt, flL_nil] using hT
    · rw [cnt_snoc (by omega), cg a i (Nat.le_refl _)]
      exact hk a (by omega) h3 h4
  · rw [cg a b (by omega)]
    exact hW a b h1 (by omega) h3 h4
theorem turned_E {D L : List Int} {O : List Bool} {n : Nat} {T : Int} (hO : O.length = L.length) (n1 : 1 ≤ n) (hT : 0 ≤ T) (hL : L.length < 1000000) :
    ∃ R : List Int, cE sem_law_turned [di D, di L, .lst (O.map ownS), .int n, .int T] = some (.fl (R.map .int)) ∧ R.length = L.length ∧ Wn L R O n T L.length := by
  obtain ⟨z, e, R, rfl, hR, hW⟩ := fn_wp (pb := [false, false, false, false, false]) (n := 10) (f := c_law_turned) (es := [.o (di D), .o (di L), .o (.lst (O.map ownS)), .o (.int n), .o (.int T)]) (R := fun z => ∃ R : List Int, z = .ok (.fl (R.map .int)) [.o (di D), .o (di L), .o (.lst (O.map ownS)), .o (.int n), .o (.int T)] ∧ R.length = L.length ∧ Wn L R O n T L.length) rfl (by
    have m3 : ∀ k, cP sem_law_mix [.lst (D.map .int), .int k, .int 3] = some (.int (mixv D k 3)) := fun k => mix_P (by decide)
    unfold c_law_turned di
    simp -implicitDefEqProofs (maxSteps := 3000000) only [wp_seq, wp_if, wp_set, wp_ret, wp_drop, wp_app, wp_for, wp_forL, wp_frz, wp_aug, wp_fld, wp_fldA, wp_setL, wp_nil, wp_brk, wp_cont, wp_retN, thenQ_nx, thenQ_rt, thenQ_ex, thenQ_bk, thenQ_ct, setQ_ok, setQ_ex, retQ_ok, retQ_ex, dropQ_ok, dropQ_ex, fldQ_ok, bodyQ_nx, bodyQ_ct, bodyQ_bk, bodyQ_rt, bodyQ_ex, endQ_rt, endQ_nx, endQ_ex, mE_eq, mMv_eq, mV, mNoex, p_V, pC, pU, pO, pN, aNil, aCons, p_B', asB_bl, bNot, bAnd, bOr, pIf, pB, p_ch, qv_add, qv_addA, qv_addL, qv_sub, qv_mul, qv_mulL, qv_div, qv_mod, qv_pow, qv_shl, qv_shr, qv_lt, qv_le, qv_gt, qv_ge, qv_neg, qv_eqI, qv_neI, qv_eqB, qv_neB, qv_ix, qv_ixT, qv_ixR, qv_len, qv_lenT, qv_lenR, qv_abs, qv_int, qv_intB, qv_max2, qv_min2, qv_rg1, qv_rg2, qv_items, qv_itemsT, qv_itemsR, qv_lst, qv_lstR, qv_isN0, qv_isNI, qv_isNL, qv_isNT, qv_noN0, qv_noNI, qv_noNL, qv_noNT, pFld, iL, iT, iN, p_E, sc_int, sc_bl, sc_non, eF, eV, esNil, esCons, eLst, eTup, eN, eAddA, eIf, fLst, fSl, oP, fList, fCat, fRep, pF, pLst, pTup, pSl, gN, gT, gsNil, gsCons, bN, lf, bYes, finE, leaf, getS, getP, getFd, setP, setFd, setF, putE, plSlot, lenE, appE, asL, setE, toD, frz, frzAll, leafE, wipeE, kids, ex_bind, ex_map, ex_if, ex_some, List.getElem?_cons_zero, List.getElem?_cons_succ, List.set_cons_zero, List.set_cons_succ, List.length_cons, List.length_nil, List.length_map, List.map_cons, List.map_nil, List.cons_append, List.nil_append, Option.bind_some, Option.map_some, Option.bind_none, Option.map_none, Option.some.injEq, exists_eq_left, exists_eq_left', and_true, true_and, Et.n.injEq, Et.o.injEq, Et.fl.injEq, Dt.int.injEq, Dt.bl.injEq, decide_eq_true_eq, decide_eq_false_iff_not, forall_const, if_true, if_false, Bool.false_eq_true, reduceIte, List.replicate_succ, List.replicate_zero, true_implies, false_implies, reduceCtorEq, Fz.ok.injEq, List.cons.injEq, atI_map, List.length_append, appE_fl, snoc_i, fLc, cutD_map, sIx_no, all_sc, map_app, rep_fl, rep_int, intsOf_m, qv_min, qv_max, qv_sum, wp_loop0, sc_lst, sc_tup, sc_ob, mMeth, mMethT, tempOk, eMk, eM, pM, obOk, lentOk, own, owns, Bool.and_true, Bool.true_and, Bool.not_true, Bool.not_false, Bool.not_eq_true, Bool.not_eq_false, Bool.not_eq_eq_eq_not, toDs, Nat.reduceAdd, Nat.reduceLT, List.all_nil, Nat.reduceEqDiff, Nat.reduceSub, Nat.reduceMul, Int.reduceLT, Int.reduceLE, Int.reduceAdd, Int.reduceSub, Int.reduceMul, Int.reduceNeg, Int.reduceToNat, Nat.lt_irrefl, Nat.zero_le, Nat.not_lt_zero, Nat.zero_lt_succ]
    refine ⟨by unfold lim62; omega, ?_⟩
    rw [Int.toNat_natCast]
    refine wp_range (fun i ρ => ∃ (R : List Int) (r : Nat) (a8 a9 : Option Et), ρ = [some (.o (di D)), some (.o (di L)), some (.o (.lst (O.map ownS))), some (.o (.int n)), some (.o (.int T)), some (.fl (R.map .int)), some (.fl []), some (.fl ((flL L R (i - r) i).map .int)), a8, a9] ∧ R.length = L.length ∧ (∀ x, i ≤ x → R.getD x 0 = L.getD x 0) ∧ r ≤ i ∧
      (∀ x, i - r ≤ x → x < i → O.getD x false = false) ∧ (∀ a, a < i - r → ∃ x, a ≤ x ∧ x < i ∧ O.getD x false = true) ∧ Wn L R O n T i) ⟨L, 0, none, none, by rw [flL_nil]; rfl, rfl, fun _ _ => rfl, Nat.le_refl _, fun x a b => by omega, fun a h => by omega, fun a b h1 h2 _ _ => by
        have : a = b := by omega
        subst this
        simpa [cnt, flL] using hT⟩ ?_ ?_
    · rintro i ρ hi ⟨R, r, a8, a9, rfl, hR, hx, hr, hn, hmx, hW⟩
      have eo : atI (O.map ownS) (0 + (i : Int) * 1) = some (ownS (O.getD i false)) := by
        rw [atI_map, atI_nat (by omega) (by omega), show (0 + (i : Int) * 1).toNat = i by omega]
        have : i < O.length := by omega
        simp [List.getD, this]
      have el : atI L (0 + (i : Int) * 1) = some (L.getD i 0) := by rw [atI_getD (by omega) (by omega)]; congr 2; omega
      have en : ∀ m : Nat, m = L.length → ixN m (0 + (i : Int) * 1) = some i := fun m h => by
        unfold ixN
        rw [if_pos (by omega), if_pos (by omega)]
        congr 1
        omega
      unfold di
      have eo' : Option.map ownS (atI O (0 + (i : Int) * 1)) = some (ownS (O.getD i false)) := by rw [← atI_map]; exact eo
      simp -implicitDefEqProofs (maxSteps := 3000000) only [wp_seq, wp_if, wp_set, wp_ret, wp_drop, wp_app, wp_for, wp_forL, wp_frz, wp_aug, wp_fld, wp_fldA, wp_setL, wp_nil, wp_brk, wp_cont, wp_retN, thenQ_nx, thenQ_rt, thenQ_ex, thenQ_bk, thenQ_ct, setQ_ok, setQ_ex, retQ_ok, retQ_ex, dropQ_ok, dropQ_ex, fldQ_ok, bodyQ_nx, bodyQ_ct, bodyQ_bk, bodyQ_rt, bodyQ_ex, endQ_rt, endQ_nx, endQ_ex, mE_eq, mMv_eq, mV, mNoex, p_V, pC, pU, pO, pN, aNil, aCons, p_B', asB_bl, bNot, bAnd, bOr, pIf, pB, p_ch, qv_add, qv_addA, qv_addL, qv_sub, qv_mul, qv_mulL, qv_div, qv_mod, qv_pow, qv_shl, qv_shr, qv_lt, qv_le, qv_gt, qv_ge, qv_neg, qv_eqI, qv_neI, qv_eqB, qv_neB, qv_ix, qv_ixT, qv_ixR, qv_len, qv_lenT, qv_lenR, qv_abs, qv_int, qv_intB, qv_max2, qv_min2, qv_rg1, qv_rg2, qv_items, qv_itemsT, qv_itemsR, qv_lst, qv_lstR, qv_isN0, qv_isNI, qv_isNL, qv_isNT, qv_noN0, qv_noNI, qv_noNL, qv_noNT, pFld, iL, iT, iN, p_E, sc_int, sc_bl, sc_non, eF, eV, esNil, esCons, eLst, eTup, eN, eAddA, eIf, fLst, fSl, oP, fList, fCat, fRep, pF, pLst, pTup, pSl, gN, gT, gsNil, gsCons, bN, lf, bYes, finE, leaf, getS, getP, getFd, setP, setFd, setF, putE, plSlot, lenE, appE, asL, setE, toD, frz, frzAll, leafE, wipeE, kids, ex_bind, ex_map, ex_if, ex_some, List.getElem?_cons_zero, List.getElem?_cons_succ, List.set_cons_zero, List.set_cons_succ, List.length_cons, List.length_nil, List.length_map, List.map_cons, List.map_nil, List.cons_append, List.nil_append, Option.bind_some, Option.map_some, Option.bind_none, Option.map_none, Option.some.injEq, exists_eq_left, exists_eq_left', and_true, true_and, Et.n.injEq, Et.o.injEq, Et.fl.injEq, Dt.int.injEq, Dt.bl.injEq, decide_eq_true_eq, decide_eq_false_iff_not, forall_const, if_true, if_false, Bool.false_eq_true, reduceIte, List.replicate_succ, List.replicate_zero, true_implies, false_implies, reduceCtorEq, Fz.ok.injEq, List.cons.injEq, atI_map, List.length_append, appE_fl, snoc_i, fLc, cutD_map, sIx_no, all_sc, map_app, rep_fl, rep_int, intsOf_m, qv_min, qv_max, qv_sum, wp_loop0, sc_lst, sc_tup, sc_ob, mMeth, mMethT, tempOk, eMk, eM, pM, obOk, lentOk, own, owns, Bool.and_true, Bool.true_and, Bool.not_true, Bool.not_false, Bool.not_eq_true, Bool.not_eq_false, Bool.not_eq_eq_eq_not, toDs, Nat.reduceAdd, Nat.reduceLT, List.all_nil, Nat.reduceEqDiff, Nat.reduceSub, Nat.reduceMul, Int.reduceLT, Int.reduceLE, Int.reduceAdd, Int.reduceSub, Int.reduceMul, Int.reduceNeg, Int.reduceToNat, Nat.lt_irrefl, Nat.zero_le, Nat.not_lt_zero, Nat.zero_lt_succ, eo', ownS_eq]
      have hxi := hx i (Nat.le_refl _)
      have near : (List.take ((flL L R (i - r) i).length + 1 - HT.sIx ((flL L R (i - r) i).length + 1) 0 (some (-(n : Int)))) (List.drop (HT.sIx ((flL L R (i - r) i).length + 1) 0 (some (-(n : Int)))) (flL L R (i - r) i ++ [0]))).sum = cnt L R (i - r + (r + 1 - n)) i := by
        rw [sIx_neg n1, flL_len, show i - (i - r) = r by omega, List.take_of_length_le (by simp [flL_len]; omega), List.drop_append_of_le_length (by rw [flL_len]; omega), flL_drop (by omega), List.sum_append]
        simp [cnt]
      rw [near]
      refine ⟨fun hp => wp_setI ?_, fun hp => ⟨by rw [sz]; omega, ⟨by rw [flL_len, sz]; omega, rfl⟩, ?_⟩⟩
      · simp -implicitDefEqProofs (maxSteps := 3000000) only [wp_seq, wp_if, wp_set, wp_ret, wp_drop, wp_app, wp_for, wp_forL, wp_frz, wp_aug, wp_fld, wp_fldA, wp_setL, wp_nil, wp_brk, wp_cont, wp_retN, thenQ_nx, thenQ_rt, thenQ_ex, thenQ_bk, thenQ_ct, setQ_ok, setQ_ex, retQ_ok, retQ_ex, dropQ_ok, dropQ_ex, fldQ_ok, bodyQ_nx, bodyQ_ct, bodyQ_bk, bodyQ_rt, bodyQ_ex, endQ_rt, endQ_nx, endQ_ex, mE_eq, mMv_eq, mV, mNoex, p_V, pC, pU, pO, pN, aNil, aCons, p_B', asB_bl, bNot, bAnd, bOr, pIf, pB, p_ch, qv_add, qv_addA, qv_addL, qv_sub, qv_mul, qv_mulL, qv_div, qv_mod, qv_pow, qv_shl, qv_shr, qv_lt, qv_le, qv_gt, qv_ge, qv_neg, qv_eqI, qv_neI, qv_eqB, qv_neB, qv_ix, qv_ixT, qv_ixR, qv_len, qv_lenT, qv_lenR, qv_abs, qv_int, qv_intB, qv_max2, qv_min2, qv_rg1, qv_rg2, qv_items, qv_itemsT, qv_itemsR, qv_lst, qv_lstR, qv_isN0, qv_isNI, qv_isNL, qv_isNT, qv_noN0, qv_noNI, qv_noNL, qv_noNT, pFld, iL, iT, iN, p_E, sc_int, sc_bl, sc_non, eF, eV, esNil, esCons, eLst, eTup, eN, eAddA, eIf, fLst, fSl, oP, fList, fCat, fRep, pF, pLst, pTup, pSl, gN, gT, gsNil, gsCons, bN, lf, bYes, finE, leaf, getS, getP, getFd, setP, setFd, setF, putE, plSlot, lenE, appE, asL, setE, toD, frz, frzAll, leafE, wipeE, kids, ex_bind, ex_map, ex_if, ex_some, List.getElem?_cons_zero, List.getElem?_cons_succ, List.set_cons_zero, List.set_cons_succ, List.length_cons, List.length_nil, List.length_map, List.map_cons, List.map_nil, List.cons_append, List.nil_append, Option.bind_some, Option.map_some, Option.bind_none, Option.map_none, Option.some.injEq, exists_eq_left, exists_eq_left', and_true, true_and, Et.n.injEq, Et.o.injEq, Et.fl.injEq, Dt.int.injEq, Dt.bl.injEq, decide_eq_true_eq, decide_eq_false_iff_not, forall_const, if_true, if_false, Bool.false_eq_true, reduceIte, List.replicate_succ, List.replicate_zero, true_implies, false_implies, reduceCtorEq, Fz.ok.injEq, List.cons.injEq, atI_map, List.length_append, appE_fl, snoc_i, fLc, cutD_map, sIx_no, all_sc, map_app, rep_fl, rep_int, intsOf_m, qv_min, qv_max, qv_sum, wp_loop0, sc_lst, sc_tup, sc_ob, mMeth, mMethT, tempOk, eMk, eM, pM, obOk, lentOk, own, owns, Bool.and_true, Bool.true_and, Bool.not_true, Bool.not_false, Bool.not_eq_true, Bool.not_eq_false, Bool.not_eq_eq_eq_not, toDs, Nat.reduceAdd, Nat.reduceLT, List.all_nil, Nat.reduceEqDiff, Nat.reduceSub, Nat.reduceMul, Int.reduceLT, Int.reduceLE, Int.reduceAdd, Int.reduceSub, Int.reduceMul, Int.reduceNeg, Int.reduceToNat, Nat.lt_irrefl, Nat.zero_le, Nat.not_lt_zero, Nat.zero_lt_succ, m3, el, qv_xor, setIQ_ok, lenE, en R.length hR, mapset]
        refine ⟨_, 0, _, _, ⟨rfl, by rw [Nat.sub_zero, flL_nil]; rfl, rfl, rfl⟩, by rw [List.length_set]; exact hR, fun x hx2 => by rw [set_getD (by omega)]; exact hx x (by omega), by omega, fun x a b => by omega, fun a ha => ⟨i, by omega, by omega, hp⟩, ?_⟩
        refine Wn_step hT (fun x hx2 => set_getD (by omega)) hW fun a a1 a2 a3 => ?_
        have := a3 i a1 (by omega)
        rw [hp] at this
        cases this
      · have stepN : Wn L R O n T (i + 1) := Wn_step hT (fun _ _ => rfl) hW fun a a1 a2 a3 => by
          rw [if_neg (by simpa using hxi)]
          have := hW a i a1 (Nat.le_refl _) (by omega) fun x h1 h2 => a3 x h1 (by omega)
          omega
        have keepN : ∃ R_1 r_1 a8 a9', (List.map Dt.int R = List.map Dt.int R_1 ∧ List.map Dt.int (flL L R (i - r) i ++ [0]) = List.map Dt.int (flL L R_1 (i + 1 - r_1) (i + 1)) ∧ some (Et.n (Dt.int (0 + (i : Int) * 1))) = a8 ∧ some (Et.n (Dt.int (cnt L R (i - r + (r + 1 - n)) i))) = a9') ∧ R_1.length = L.length ∧ (∀ x, i + 1 ≤ x → R_1.getD x 0 = L.getD x 0) ∧ r_1 ≤ i + 1 ∧ (∀ x, i + 1 - r_1 ≤ x → x < i + 1 → O.getD x false = false) ∧ (∀ a, a < i + 1 - r_1 → ∃ x, a ≤ x ∧ x < i + 1 ∧ O.getD x false = true) ∧ Wn L R_1 O n T (i + 1) := by
          refine ⟨R, r + 1, _, _, ⟨rfl, ?_, rfl, rfl⟩, hR, fun x h => hx x (by omega), by omega, fun x h1 h2 => ?_, fun a ha => ?_, stepN⟩
          · rw [show i + 1 - (r + 1) = i - r by omega, flL_snoc (by omega), if_neg (by simpa using hxi)]
          · by_cases e : x = i
            · subst e; exact hp
            · exact hn x (by omega) (by omega)
          · obtain ⟨x, b1, b2, b3⟩ := hmx a (by omega)
            exact ⟨x, b1, by omega, b3⟩
        by_cases c1 : cnt L R (i - r + (r + 1 - n)) i < T
        · rw [if_pos c1, m3, Option.bind_some, qv_gt, Option.bind_some, asB_bl]
          refine ⟨_, rfl, fun c2 => wp_setI ?_, fun _ => keepN⟩
          have e7 : ixN ((flL L R (i - r) i).length + 1) (-1) = some r := by
            rw [flL_len, show i - (i - r) = r by omega]
            unfold ixN
            rw [if_neg (by omega), if_pos (by omega)]
            congr 1
            omega
          have e8 : (flL L R (i - r) i ++ [0]).set r 1 = flL L R (i - r) i ++ [1] := by
            rw [List.set_append_right _ _ (by rw [flL_len]; omega), flL_len, show r - (i - (i - r)) = 0 by omega]
            rfl
          simp -implicitDefEqProofs (maxSteps := 3000000) only [wp_seq, wp_if, wp_set, wp_ret, wp_drop, wp_app, wp_for, wp_forL, wp_frz, wp_aug, wp_fld, wp_fldA, wp_setL, wp_nil, wp_brk, wp_cont, wp_retN, thenQ_nx, thenQ_rt, thenQ_ex, thenQ_bk, thenQ_ct, setQ_ok, setQ_ex, retQ_ok, retQ_ex, dropQ_ok, dropQ_ex, fldQ_ok, bodyQ_nx, bodyQ_ct, bodyQ_bk, bodyQ_rt, bodyQ_ex, endQ_rt, endQ_nx, endQ_ex, mE_eq, mMv_eq, mV, mNoex, p_V, pC, pU, pO, pN, aNil, aCons, p_B', asB_bl, bNot, bAnd, bOr, pIf, pB, p_ch, qv_add, qv_addA, qv_addL, qv_sub, qv_mul, qv_mulL, qv_div, qv_mod, qv_pow, qv_shl, qv_shr, qv_lt, qv_le, qv_gt, qv_ge, qv_neg, qv_eqI, qv_neI, qv_eqB, qv_neB, qv_ix, qv_ixT, qv_ixR, qv_len, qv_lenT, qv_lenR, qv_abs, qv_int, qv_intB, qv_max2, qv_min2, qv_rg1, qv_rg2, qv_items, qv_itemsT, qv_itemsR, qv_lst, qv_lstR, qv_isN0, qv_isNI, qv_isNL, qv_isNT, qv_noN0, qv_noNI, qv_noNL, qv_noNT, pFld, iL, iT, iN, p_E, sc_int, sc_bl, sc_non, eF, eV, esNil, esCons, eLst, eTup, eN, eAddA, eIf, fLst, fSl, oP, fList, fCat, fRep, pF, pLst, pTup, pSl, gN, gT, gsNil, gsCons, bN, lf, bYes, finE, leaf, getS, getP, getFd, setP, setFd, setF, putE, plSlot, lenE, appE, asL, setE, toD, frz, frzAll, leafE, wipeE, kids, ex_bind, ex_map, ex_if, ex_some, List.getElem?_cons_zero, List.getElem?_cons_succ, List.set_cons_zero, List.set_cons_succ, List.length_cons, List.length_nil, List.length_map, List.map_cons, List.map_nil, List.cons_append, List.nil_append, Option.bind_some, Option.map_some, Option.bind_none, Option.map_none, Option.some.injEq, exists_eq_left, exists_eq_left', and_true, true_and, Et.n.injEq, Et.o.injEq, Et.fl.injEq, Dt.int.injEq, Dt.bl.injEq, decide_eq_true_eq, decide_eq_false_iff_not, forall_const, if_true, if_false, Bool.false_eq_true, reduceIte, List.replicate_succ, List.replicate_zero, true_implies, false_implies, reduceCtorEq, Fz.ok.injEq, List.cons.injEq, atI_map, List.length_append, appE_fl, snoc_i, fLc, cutD_map, sIx_no, all_sc, map_app, rep_fl, rep_int, intsOf_m, qv_min, qv_max, qv_sum, wp_loop0, sc_lst, sc_tup, sc_ob, mMeth, mMethT, tempOk, eMk, eM, pM, obOk, lentOk, own, owns, Bool.and_true, Bool.true_and, Bool.not_true, Bool.not_false, Bool.not_eq_true, Bool.not_eq_false, Bool.not_eq_eq_eq_not, toDs, Nat.reduceAdd, Nat.reduceLT, List.all_nil, Nat.reduceEqDiff, Nat.reduceSub, Nat.reduceMul, Int.reduceLT, Int.reduceLE, Int.reduceAdd, Int.reduceSub, Int.reduceMul, Int.reduceNeg, Int.reduceToNat, Nat.lt_irrefl, Nat.zero_le, Nat.not_lt_zero, Nat.zero_lt_succ, setIQ_ok, lenE, e7, mapset, e8]
          refine wp_setI ?_
          simp -implicitDefEqProofs (maxSteps := 3000000) only [wp_seq, wp_if, wp_set, wp_ret, wp_drop, wp_app, wp_for, wp_forL, wp_frz, wp_aug, wp_fld, wp_fldA, wp_setL, wp_nil, wp_brk, wp_cont, wp_retN, thenQ_nx, thenQ_rt, thenQ_ex, thenQ_bk, thenQ_ct, setQ_ok, setQ_ex, retQ_ok, retQ_ex, dropQ_ok, dropQ_ex, fldQ_ok, bodyQ_nx, bodyQ_ct, bodyQ_bk, bodyQ_rt, bodyQ_ex, endQ_rt, endQ_nx, endQ_ex, mE_eq, mMv_eq, mV, mNoex, p_V, pC, pU, pO, pN, aNil, aCons, p_B', asB_bl, bNot, bAnd, bOr, pIf, pB, p_ch, qv_add, qv_addA, qv_addL, qv_sub, qv_mul, qv_mulL, qv_div, qv_mod, qv_pow, qv_shl, qv_shr, qv_lt, qv_le, qv_gt, qv_ge, qv_neg, qv_eqI, qv_neI, qv_eqB, qv_neB, qv_ix, qv_ixT, qv_ixR, qv_len, qv_lenT, qv_lenR, qv_abs, qv_int, qv_intB, qv_max2, qv_min2, qv_rg1, qv_rg2, qv_items, qv_itemsT, qv_itemsR, qv_lst, qv_lstR, qv_isN0, qv_isNI, qv_isNL, qv_isNT, qv_noN0, qv_noNI, qv_noNL, qv_noNT, pFld, iL, iT, iN, p_E, sc_int, sc_bl, sc_non, eF, eV, esNil, esCons, eLst, eTup, eN, eAddA, eIf, fLst, fSl, oP, fList, fCat, fRep, pF, pLst, pTup, pSl, gN, gT, gsNil, gsCons, bN, lf, bYes, finE, leaf, getS, getP, getFd, setP, setFd, setF, putE, plSlot, lenE, appE, asL, setE, toD, frz, frzAll, leafE, wipeE, kids, ex_bind, ex_map, ex_if, ex_some, List.getElem?_cons_zero, List.getElem?_cons_succ, List.set_cons_zero, List.set_cons_succ, List.length_cons, List.length_nil, List.length_map, List.map_cons, List.map_nil, List.cons_append, List.nil_append, Option.bind_some, Option.map_some, Option.bind_none, Option.map_none, Option.some.injEq, exists_eq_left, exists_eq_left', and_true, true_and, Et.n.injEq, Et.o.injEq, Et.fl.injEq, Dt.int.injEq, Dt.bl.injEq, decide_eq_true_eq, decide_eq_false_iff_not, forall_const, if_true, if_false, Bool.false_eq_true, reduceIte, List.replicate_succ, List.replicate_zero, true_implies, false_implies, reduceCtorEq, Fz.ok.injEq, List.cons.injEq, atI_map, List.length_append, appE_fl, snoc_i, fLc, cutD_map, sIx_no, all_sc, map_app, rep_fl, rep_int, intsOf_m, qv_min, qv_max, qv_sum, wp_loop0, sc_lst, sc_tup, sc_ob, mMeth, mMethT, tempOk, eMk, eM, pM, obOk, lentOk, own, owns, Bool.and_true, Bool.true_and, Bool.not_true, Bool.not_false, Bool.not_eq_true, Bool.not_eq_false, Bool.not_eq_eq_eq_not, toDs, Nat.reduceAdd, Nat.reduceLT, List.all_nil, Nat.reduceEqDiff, Nat.reduceSub, Nat.reduceMul, Int.reduceLT, Int.reduceLE, Int.reduceAdd, Int.reduceSub, Int.reduceMul, Int.reduceNeg, Int.reduceToNat, Nat.lt_irrefl, Nat.zero_le, Nat.not_lt_zero, Nat.zero_lt_succ, setIQ_ok, lenE, el, en R.length hR, mapset]
          have ne : (R.set i (1 - L.getD i 0)).getD i 0 ≠ L.getD i 0 := by
            rw [set_at (by omega)]
            omega
          have ag : ∀ x, x < i → (R.set i (1 - L.getD i 0)).getD x 0 = R.getD x 0 := fun x hx2 => set_getD (by omega)
          refine ⟨_, r + 1, _, _, ⟨rfl, ?_, rfl, rfl⟩, by rw [List.length_set]; exact hR, fun x h => by rw [set_getD (by omega)]; exact hx x (by omega), by omega, fun x h1 h2 => ?_, fun a ha => ?_, ?_⟩
          · rw [show i + 1 - (r + 1) = i - r by omega, flL_snoc (by omega), if_pos ne, flL_congr fun x _ hx2 => ag x hx2]
          · by_cases e : x = i
            · subst e; exact hp
            · exact hn x (by omega) (by omega)
          · obtain ⟨x, b1, b2, b3⟩ := hmx a (by omega)
            exact ⟨x, b1, by omega, b3⟩
          · refine Wn_step hT ag hW fun a a1 a2 a3 => ?_
            rw [if_pos ne]
            have ha : i - r ≤ a := by
              rcases Nat.lt_or_ge a (i - r) with h | h
              · obtain ⟨x, b1, b2, b3⟩ := hmx a h
                rw [a3 x b1 (by omega)] at b3
                cases b3
              · exact h
            have := cnt_mono (L := L) (R := R) (a := i - r + (r + 1 - n)) (b := a) (c := i) (by omega) a1
            omega
        · rw [if_neg c1]
          exact ⟨false, rfl, (fun z => by cases z), fun _ => keepN⟩
    · rintro ρ ⟨R, r, a8, a9, rfl, hR, hx, hr, hn, hmx, hW⟩
      unfold di
      simp -implicitDefEqProofs (maxSteps := 3000000) only [wp_seq, wp_if, wp_set, wp_ret, wp_drop, wp_app, wp_for, wp_forL, wp_frz, wp_aug, wp_fld, wp_fldA, wp_setL, wp_nil, wp_brk, wp_cont, wp_retN, thenQ_nx, thenQ_rt, thenQ_ex, thenQ_bk, thenQ_ct, setQ_ok, setQ_ex, retQ_ok, retQ_ex, dropQ_ok, dropQ_ex, fldQ_ok, bodyQ_nx, bodyQ_ct, bodyQ_bk, bodyQ_rt, bodyQ_ex, endQ_rt, endQ_nx, endQ_ex, mE_eq, mMv_eq, mV, mNoex, p_V, pC, pU, pO, pN, aNil, aCons, p_B', asB_bl, bNot, bAnd, bOr, pIf, pB, p_ch, qv_add, qv_addA, qv_addL, qv_sub, qv_mul, qv_mulL, qv_div, qv_mod, qv_pow, qv_shl, qv_shr, qv_lt, qv_le, qv_gt, qv_ge, qv_neg, qv_eqI, qv_neI, qv_eqB, qv_neB, qv_ix, qv_ixT, qv_ixR, qv_len, qv_lenT, qv_lenR, qv_abs, qv_int, qv_intB, qv_max2, qv_min2, qv_rg1, qv_rg2, qv_items, qv_itemsT, qv_itemsR, qv_lst, qv_lstR, qv_isN0, qv_isNI, qv_isNL, qv_isNT, qv_noN0, qv_noNI, qv_noNL, qv_noNT, pFld, iL, iT, iN, p_E, sc_int, sc_bl, sc_non, eF, eV, esNil, esCons, eLst, eTup, eN, eAddA, eIf, fLst, fSl, oP, fList, fCat, fRep, pF, pLst, pTup, pSl, gN, gT, gsNil, gsCons, bN, lf, bYes, finE, leaf, getS, getP, getFd, setP, setFd, setF, putE, plSlot, lenE, appE, asL, setE, toD, frz, frzAll, leafE, wipeE, kids, ex_bind, ex_map, ex_if, ex_some, List.getElem?_cons_zero, List.getElem?_cons_succ, List.set_cons_zero, List.set_cons_succ, List.length_cons, List.length_nil, List.length_map, List.map_cons, List.map_nil, List.cons_append, List.nil_append, Option.bind_some, Option.map_some, Option.bind_none, Option.map_none, Option.some.injEq, exists_eq_left, exists_eq_left', and_true, true_and, Et.n.injEq, Et.o.injEq, Et.fl.injEq, Dt.int.injEq, Dt.bl.injEq, decide_eq_true_eq, decide_eq_false_iff_not, forall_const, if_true, if_false, Bool.false_eq_true, reduceIte, List.replicate_succ, List.replicate_zero, true_implies, false_implies, reduceCtorEq, Fz.ok.injEq, List.cons.injEq, atI_map, List.length_append, appE_fl, snoc_i, fLc, cutD_map, sIx_no, all_sc, map_app, rep_fl, rep_int, intsOf_m, qv_min, qv_max, qv_sum, wp_loop0, sc_lst, sc_tup, sc_ob, mMeth, mMethT, tempOk, eMk, eM, pM, obOk, lentOk, own, owns, Bool.and_true, Bool.true_and, Bool.not_true, Bool.not_false, Bool.not_eq_true, Bool.not_eq_false, Bool.not_eq_eq_eq_not, toDs, Nat.reduceAdd, Nat.reduceLT, List.all_nil, Nat.reduceEqDiff, Nat.reduceSub, Nat.reduceMul, Int.reduceLT, Int.reduceLE, Int.reduceAdd, Int.reduceSub, Int.reduceMul, Int.reduceNeg, Int.reduceToNat, Nat.lt_irrefl, Nat.zero_le, Nat.not_lt_zero, Nat.zero_lt_succ]
      exact ⟨R, rfl, hR, hW⟩)
  exact ⟨R, cE_of (es := [.o (di D), .o (di L), .o (.lst (O.map ownS)), .o (.int n), .o (.int T)]) e, hR, hW⟩
end T32
namespace T32
open PySem PySem.Spec PyProof.Rows L2 Qs
variable [CTab]
def lineF (m P : List Int) (a b : Nat) : List Int := List.replicate a 0 ++ m ++ P ++ List.replicate b 0
theorem lineF_len {m P : List Int} {a b : Nat} : (lineF m P a b).length = a + m.length + P.length + b := by simp [lineF]; omega
theorem line_getD {m P : List Int} {a b x : Nat} : (lineF m P a b).getD x 0 = if x < a then 0 else if x < a + m.length then m.getD (x - a) 0 else if x < a + m.length + P.length then P.getD (x - a - m.length) 0 else 0 := by
  unfold lineF
  simp only [List.getD, List.getElem?_append, List.length_replicate, List.length_append]
  by_cases c1 : x < a
  · have c2 : x < a + m.length := by omega
    have c3 : x < a + m.length + P.length := by omega
    simp [c1, c2, c3]
  · by_cases c2 : x < a + m.length
    · have c3 : x < a + m.length + P.length := by omega
      simp [c1, c2, c3]
    · by_cases c3 : x < a + m.length + P.length
      · simp only [c1, c2, c3, if_true, if_false]
        congr 2
        omega
      · simp only [c1, c2, c3, if_true, if_false]
        by_cases c4 : x - (a + m.length + P.length) < b
        · rw [List.getElem?_replicate, if_pos c4]; rfl
        · rw [List.getElem?_replicate, if_neg c4]; rfl
theorem win_getD {B : List Int} {x n k : Nat} (hk : k < n) : ((B.drop x).take n).getD k 0 = B.getD (x + k) 0 := by
  simp only [List.getD, List.getElem?_take_of_lt hk, List.getElem?_drop]
/-- before the mark, and behind the frame -/
theorem win_befo {m P : List Int} {I b j : Nat} (hj : j ≤ m.length) (hI : j ≤ I) : ((lineF m P I b).drop (I - j)).take m.length = befo m j := by
  have l1 : (((lineF m P I b).drop (I - j)).take m.length).length = m.length := by
    rw [List.length_take, List.length_drop, lineF_len]
    omega
  apply getD_eq (l1.trans (befo_len hj).symm)
  intro k hk
  rw [l1] at hk
  rw [win_getD hk, line_getD, befo_getD hj hk]
  by_cases c : k < j
  · rw [if_pos (by omega), if_pos c]
  · rw [if_neg (by omega), if_pos (by omega), if_neg c]
    congr 1
    omega
theorem win_zero {m P : List Int} {I b x : Nat} (h : x + m.length ≤ I ∨ (I + m.length + P.length ≤ x ∧ x + m.length ≤ I + m.length + P.length + b)) : ((lineF m P I b).drop x).take m.length = befo m m.length := by
  have l1 : (((lineF m P I b).drop x).take m.length).length = m.length := by
    rw [List.length_take, List.length_drop, lineF_len]
    omega
  apply getD_eq (l1.trans (befo_len (Nat.le_refl _)).symm)
  intro k hk
  rw [l1] at hk
  rw [win_getD hk, line_getD, befo_getD (Nat.le_refl _) hk, if_pos hk]
  rcases h with h | h
  · rw [if_pos (by omega)]
  · rw [if_neg (by omega), if_neg (by omega), if_neg (by omega)]
theorem win_mark {m P : List Int} {I b : Nat} : ((lineF m P I b).drop I).take m.length = m := by
  have l1 : (((lineF m P I b).drop I).take m.length).length = m.length := by
    rw [List.length_take, List.length_drop, lineF_len]
    omega
  apply getD_eq l1
  intro k hk
  rw [l1] at hk
  rw [win_getD hk, line_getD, if_neg (by omega), if_pos (by omega)]
  congr 1
  omega
theorem filter_or {α : Type} {p q r : α → Bool} (h : ∀ x, r x = true → p x = true ∨ q x = true) : ∀ l : List α, (l.filter r).length ≤ (l.filter p).length + (l.filter q).length
  | [] => by simp
  | x :: l => by
    have ih := filter_or h l
    by_cases hr : r x = true
    · rcases h x hr with hp | hq
      · rw [List.filter_cons_of_pos hr, List.filter_cons_of_pos hp]
        have : (l.filter q).length ≤ ((x :: l).filter q).length := by
          by_cases hq : q x = true
          · rw [List.filter_cons_of_pos hq]; simp
          · rw [List.filter_cons_of_neg hq]; exact Nat.le_refl _
        simp only [List.length_cons]
        omega
      · rw [List.filter_cons_of_pos hr, List.filter_cons_of_pos hq]
        have : (l.filter p).length ≤ ((x :: l).filter p).length := by
          by_cases hp : p x = true
          · rw [List.filter_cons_of_pos hp]; simp
          · rw [List.filter_cons_of_neg hp]; exact Nat.le_refl _
        simp only [List.length_cons]
        omega
    · rw [List.filter_cons_of_neg hr]
      have h1 : (l.filter p).length ≤ ((x :: l).filter p).length := by
        by_cases hp : p x = true
        · rw [List.filter_cons_of_pos hp]; simp
        · rw [List.filter_cons_of_neg hp]; exact Nat.le_refl _
      have h2 : (l.filter q).length ≤ ((x :: l).filter q).length := by
        by_cases hq : q x = true
        · rw [List.filter_cons_of_pos hq]; simp
        · rw [List.filter_cons_of_neg hq]; exact Nat.le_refl _
      omega
theorem dist_tri {xs ys zs : List Int} (h : xs.length = ys.length) : dist ys zs ≤ dist xs ys + dist xs zs := by
  unfold dist
  rw [h]
  exact filter_or (fun k hk => by
    simp only [ne_eq, decide_eq_true_eq] at hk ⊢
    by_cases e : xs.getD k 0 = ys.getD k 0
    · exact .inr (by rw [e]; exact hk)
    · exact .inl e) _
theorem dist_cnt {L R : List Int} {x n : Nat} (h1 : x + n ≤ L.length) (h2 : R.length = L.length) : ((dist ((R.drop x).take n) ((L.drop x).take n) : Nat) : Int) = cnt L R x (x + n) := by
  have l1 : ((R.drop x).take n).length = n := by rw [List.length_take, List.length_drop]; omega
  unfold dist cnt flL
  rw [l1, show x + n - x = n by omega]
  have gen : ∀ l : List Nat, (∀ k ∈ l, k < n) → (((l.filter fun k => decide (((R.drop x).take n).getD k 0 ≠ ((L.drop x).take n).getD k 0)).length : Nat) : Int) = (l.map fun q => if R.getD (x + q) 0 ≠ L.getD (x + q) 0 then (1 : Int) else 0).sum := by
    intro l
    induction l with
    | nil => intro _; rfl
    | cons k l ih =>
      intro hl
      have ih := ih fun j hj => hl j (by simp [hj])
      have hk := hl k (by simp)
      rw [List.map_cons, List.sum_cons, ← ih]
      by_cases c : R.getD (x + k) 0 ≠ L.getD (x + k) 0
      · rw [if_pos c, List.filter_cons_of_pos (by rw [win_getD hk, win_getD hk]; simpa using c), List.length_cons]
        omega
      · rw [if_neg c, List.filter_cons_of_neg (by rw [win_getD hk, win_getD hk]; simpa using c)]
        omega
  exact gen _ fun k hk => by simpa using hk
theorem hit_int {R m : List Int} {t : Int} {x : Nat} (h : x + m.length ≤ R.length) : hit (R.map .int) (m.map .int) t x ↔ ((dist ((R.drop x).take m.length) m : Nat) : Int) ≤ t := by
  unfold hit
  rw [List.length_map, ← List.map_drop, ← List.map_take, dist_D (by rw [List.length_take, List.length_drop]; omega)]
section
variable {L R m : List Int} {O : List Bool} {T : Int} {p : Nat}
theorem hit_not {x : Nat} (hW : Wn L R O m.length T L.length) (hR : R.length = L.length) (hx : x + m.length ≤ L.length) (ho : ∀ y, x ≤ y → y < x + m.length → O.getD y false = false) (hw : 2 * T < dist ((L.drop x).take m.length) m) : ¬ hit (R.map .int) (m.map .int) T x := by
  rw [hit_int (by omega)]
  have h1 := hW x (x + m.length) (by omega) hx (by omega) ho
  rw [← dist_cnt hx hR] at h1
  have l1 : ((R.drop x).take m.length).length = m.length := by rw [List.length_take, List.length_drop]; omega
  have l2 : ((L.drop x).take m.length).length = m.length := by rw [List.length_take, List.length_drop]; omega
  have := dist_tri (xs := (R.drop x).take m.length) (ys := (L.drop x).take m.length) (zs := m) (l1.trans l2.symm)
  omega
theorem hit_yes {x : Nat} (hW : Wn L R O m.length T L.length) (hR : R.length = L.length) (hx : x + m.length ≤ L.length) (ho : ∀ y, x ≤ y → y < x + m.length → O.getD y false = false) (hw : (L.drop x).take m.length = m) : hit (R.map .int) (m.map .int) T x := by
  rw [hit_int (by omega)]
  have h1 := hW x (x + m.length) (by omega) hx (by omega) ho
  rw [← dist_cnt hx hR, hw] at h1
  exact h1
def ownL (n p : Nat) (l : List (List Int × Int)) : List Bool := (l.map fun q => List.replicate (q.2.toNat + n) false ++ List.replicate p true).flatten
def frames (B : List Dt) (n p : Nat) : List (List Int × Int) → Nat → List (Nat × List Dt)
  | [], _ => []
  | q :: l, e => (e + q.2.toNat, (B.drop (e + q.2.toNat + n)).take p) :: frames B n p l (e + q.2.toNat + n + p)
theorem found_all (h1 : 1 ≤ m.length) (hg : 2 * T < grd m) (hW : Wn L R O m.length T L.length) (hR : R.length = L.length) (hO : O.length = L.length) {z : Nat} : ∀ (l : List (List Int × Int)) (e : Nat) {fs : List (Nat × List Dt)} {b : Nat} {w : Bool},
    (∀ q ∈ l, q.1.length = p) → e ≤ L.length → L.drop e = segs m l ++ List.replicate z 0 → O.drop e = ownL m.length p l ++ List.replicate z false → Srch (R.map .int) (m.map .int) T p e false fs b w → fs = frames (R.map .int) m.length p l e
  | [], e, fs, b, w, _, he, hL, hOe, h => by
    refine srch_none h fun y hy hl => ?_
    rw [List.length_map, List.length_map] at hl
    have hL : L.drop e = List.replicate z 0 := hL
    have hOe : O.drop e = List.replicate z false := hOe
    have hz : L.length - e = z := by
      have := congrArg List.length hL
      simpa using this
    refine hit_not hW hR (by omega) (fun x a1 a2 => ?_) ?_
    · have : O.getD x false = (O.drop e).getD (x - e) false := by
        simp only [List.getD, List.getElem?_drop]
        rw [show e + (x - e) = x by omega]
      rw [this, hOe]
      simp only [List.getD, List.getElem?_replicate]
      split <;> rfl
    · have ew : (L.drop y).take m.length = befo m m.length := by
        apply getD_eq (by rw [List.length_take, List.length_drop, befo_len (Nat.le_refl _)]; omega)
        intro k hk
        rw [List.length_take, List.length_drop] at hk
        have hk : k < m.length := by omega
        rw [win_getD hk, befo_getD (Nat.le_refl _) hk, if_pos hk]
        have : L.getD (y + k) 0 = (L.drop e).getD (y + k - e) 0 := by
          simp only [List.getD, List.getElem?_drop]
          rw [show e + (y + k - e) = y + k by omega]
        rw [this, hL]
        simp only [List.getD, List.getElem?_replicate]
        split <;> rfl
      rw [ew, dist_symm (befo_len (Nat.le_refl _))]
      have := grd_le (m := m) h1 (Nat.le_refl _)
      omega
  | q :: l, e, fs, b, w, hq, he, hL, hOe, h => by
    obtain ⟨P, i⟩ := q
    have hP : P.length = p := hq (P, i) (by simp)
    have hL2 : L.drop e = lineF m (P ++ (segs m l ++ List.replicate z 0)) i.toNat 0 := by
      rw [hL]
      simp [segs, lineF]
    have hO2 : O.drop e = List.replicate (i.toNat + m.length) false ++ (List.replicate p true ++ (ownL m.length p l ++ List.replicate z false)) := by
      rw [hOe]
      simp [ownL]
    have ln : L.length - e = i.toNat + m.length + p + (segs m l ++ List.replicate z 0).length := by
      have := congrArg List.length hL2
      rw [List.length_drop, lineF_len] at this
      simp only [List.length_append] at this ⊢
      omega
    have on : ∀ x, e ≤ x → x < e + i.toNat + m.length → O.getD x false = false := fun x a1 a2 => by
      have : O.getD x false = (O.drop e).getD (x - e) false := by
        simp only [List.getD, List.getElem?_drop]
        rw [show e + (x - e) = x by omega]
      rw [this, hO2]
      simp only [List.getD, List.getElem?_append, List.length_replicate]
      rw [if_pos (by omega), List.getElem?_replicate, if_pos (by omega)]
      rfl
    have wd : ∀ y, e ≤ y → (L.drop y).take m.length = ((L.drop e).drop (y - e)).take m.length := fun y hy => by
      rw [List.drop_drop, show e + (y - e) = y by omega]
    obtain ⟨gs, rfl, hgs⟩ := srch_one h (q := e + i.toNat) (by omega) (fun y a1 a2 => by
      refine hit_not hW hR (by omega) (fun x b1 b2 => on x (by omega) (by omega)) ?_
      rw [wd y a1, hL2]
      by_cases c : y - e + m.length ≤ i.toNat
      · rw [win_zero (.inl c), dist_symm (befo_len (Nat.le_refl _))]
        have := grd_le (m := m) h1 (Nat.le_refl _)
        omega
      · have ey : y - e = i.toNat - (i.toNat - (y - e)) := by omega
        rw [ey, win_befo (by omega) (by omega), dist_symm (befo_len (by omega))]
        have := grd_le (m := m) (j := i.toNat - (y - e)) (by omega) (by omega)
        omega) (hit_yes hW hR (by omega) (fun x b1 b2 => on x (by omega) (by omega)) (by
      rw [wd _ (by omega), hL2, show e + i.toNat - e = i.toNat by omega, win_mark])) (by rw [List.length_map, List.length_map]; omega)
    rw [List.length_map] at hgs ⊢
    have hLd : L.drop (e + i.toNat + m.length + p) = segs m l ++ List.replicate z 0 := by
      rw [show e + i.toNat + m.length + p = e + (i.toNat + m.length + p) by omega, ← List.drop_drop, hL2]
      unfold lineF
      rw [List.replicate_zero, List.append_nil, ← List.append_assoc, List.drop_left' (by simp [hP]; omega)]
    have hOd : O.drop (e + i.toNat + m.length + p) = ownL m.length p l ++ List.replicate z false := by
      rw [show e + i.toNat + m.length + p = e + (i.toNat + m.length + p) by omega, ← List.drop_drop, hO2, ← List.append_assoc, List.drop_left' (by simp)]
    have ih := found_all h1 hg hW hR hO l _ (fun q hq2 => hq q (by simp [hq2])) (by omega) hLd hOd hgs
    rw [ih]
    rfl
end
end T32
namespace T32
open PySem PySem.Spec PyProof.Rows L2 Qs
variable [CTab]
def c_pick : Sm := (sIf (bP (pO sEq (pN (cP sem_guard) (aCons (pV 2) aNil)) (pC (.int 0)))) (sSet 2 (mE (eAddA (pLst (aCons (pC (.int 1)) aNil)) (pO sMulA (pLst (aCons (pC (.int 0)) aNil)) (pN (cP sem_law_mix) (aCons (pV 1) (aCons (pC (.int 0)) (aCons (pC (.int 10)) aNil)))))))) sNil)
def c_loop1 : Sm := (sFor (iN rg1 (aCons (pN nLen (aCons (pV 5) aNil)) aNil)) (bN 11) (sSeq (sApp (.s 10) (eAddA (pN nLen (aCons (pV 8) aNil)) (pO ixD (pV 6) (pV 11)))) (sSeq (sSet 8 (mE (eAddA (pO sAddA (pO sAddA (pV 8) (pO sMulA (pLst (aCons (pC (.int 0)) aNil)) (pO ixD (pV 6) (pV 11)))) (pV 2)) (pO ixD (pV 5) (pV 11))))) (sSet 9 (mE (eAddA (pO sAddA (pV 9) (pO sMulA (pLst (aCons (pC (.str "idle")) aNil)) (pO sAddA (pO ixD (pV 6) (pV 11)) (pN nLen (aCons (pV 2) aNil))))) (pO sMulA (pLst (aCons (pC (.str "payload")) aNil)) (pV 4))))))))
noncomputable def c_loop2 : Sm := (sFor (iN rg1 (aCons (pO sAddA (pN nLen (aCons (pV 12) aNil)) (pC (.int 1))) aNil)) (bN 16) (sSeq (sSet 17 (mE (eF (fSl (pV 12) (some (pV 15)) (some (pO sAddA (pO sAddA (pV 15) (pC (.int 1))) (pN (cP sem_law_mix) (aCons (pV 1) (aCons (pO sAddA (pC (.int 120)) (pV 16)) (aCons (pO ixD (pLst (aCons (pC (.int 3)) (aCons (pC (.int 25)) aNil))) (pO sMod (pN nInt (aCons (pV 16) aNil)) (pC (.int 2)))) aNil)))))))))) (sSeq (sSet 14 (mCat (mV 14) (mNoex (mMeth (.s 13) 0 sem_Finder_feed (aCons (pV 17) aNil))))) (sSet 15 (mE (eAddA (pV 15) (pN nLen (aCons (pV 17) aNil))))))))
def c_end : Sm := (sSeq (sSet 18 (mE (eP (pN nLen (aCons (pV 2) aNil))))) (sRet (mE (eP (pO sEq (pV 14) (pF (fLc (iL (pV 10)) (gN 19) bYes (pTup (aCons (pV 19) (aCons (pF (fSl (pV 12) (some (pO sAddA (pV 19) (pV 18))) (some (pO sAddA (pO sAddA (pV 19) (pV 18)) (pV 4))))) aNil))) [19])))))))
noncomputable def c_rest2 : Sm := (sSeq (sSet 8 (mE (eAddA (pV 8) (pO sMulA (pLst (aCons (pC (.int 0)) aNil)) (pO ixD (pV 6) (pU sNeg (pC (.int 1)))))))) (sSeq (sSet 9 (mE (eAddA (pV 9) (pO sMulA (pLst (aCons (pC (.str "idle")) aNil)) (pO ixD (pV 6) (pU sNeg (pC (.int 1)))))))) (sSeq (sIf (bP (pO sNe (pV 7) (pV 8))) (sRet (mE (eP (pC (.bl false))))) sNil) (sSeq (sSet 12 (mE (eN (cE sem_law_turned) (aCons (pV 1) (aCons (pV 7) (aCons (pV 9) (aCons (pN nLen (aCons (pV 2) aNil)) (aCons (pV 3) aNil)))))))) (sSeq (sSet 13 (mE (eMk 0 sem_Finder___init__ (aCons (pV 2) (aCons (pV 3) (aCons (pV 4) aNil)))))) (sSeq (sSet 14 (mE (eF (fLst aNil)))) (sSeq (sSet 15 (mE (eP (pC (.int 0))))) (sSeq c_loop2 c_end))))))))
noncomputable def c_rest1 : Sm := (sSeq (sSet 3 (mE (eN (cE sem_law_mix) (aCons (pV 1) (aCons (pC (.int 1)) (aCons (pO sAddA (pO sDiv (pN nInt (aCons (pO sSub (pN (cP sem_guard) (aCons (pV 2) aNil)) (pC (.int 1))) aNil)) (pC (.int 2))) (pC (.int 1))) aNil)))))) (sSeq (sSet 4 (mE (eN (cE sem_law_mix) (aCons (pV 1) (aCons (pC (.int 2)) (aCons (pC (.int 15)) aNil)))))) (sSeq (sSet 5 (mE (eLcR (iN rg1 (aCons (pN (cP sem_law_mix) (aCons (pV 1) (aCons (pC (.int 3)) (aCons (pC (.int 6)) aNil)))) aNil)) (bN 11) bYes (eN (cE sem_law_bits) (aCons (pV 1) (aCons (pO sAddA (pC (.int 30)) (pO sMulA (pC (.int 15)) (pV 11))) (aCons (pV 4) aNil)))) [11]))) (sSeq (sSetL 6 (fLc (iN rg1 (aCons (pO sAddA (pN nLen (aCons (pV 5) aNil)) (pC (.int 1))) aNil)) (gN 11) bYes (pN (cP sem_law_mix) (aCons (pV 1) (aCons (pO sAddA (pC (.int 4)) (pV 11)) (aCons (pO ixD (pLst (aCons (pC (.int 2)) (aCons (pC (.int 20)) aNil))) (pN (cP sem_law_mix) (aCons (pV 1) (aCons (pO sAddA (pC (.int 20)) (pV 11)) (aCons (pC (.int 2)) aNil))))) aNil)))) [11])) (sSeq (sSet 7 (mE (eN (cE sem_line_of) (aCons (pV 2) (aCons (pV 5) (aCons (pV 6) aNil)))))) (sSeq (sSet 8 (mE (eF (fLst aNil)))) (sSeq (sSet 9 (mE (eF (fLst aNil)))) (sSeq (sSet 10 (mE (eF (fLst aNil)))) (sSeq c_loop1 c_rest2)))))))))
theorem c_law_eq : c_law = (sSeq (sSet 1 (mE (eN (cE sem_law_draws) (aCons (pV 0) aNil)))) (sSeq (sSet 2 (mE (eN (cE sem_law_bits) (aCons (pV 1) (aCons (pC (.int 10)) (aCons (pO sAddA (pC (.int 1)) (pN (cP sem_law_mix) (aCons (pV 1) (aCons (pC (.int 0)) (aCons (pC (.int 10)) aNil))))) aNil)))))) (sSeq c_pick c_rest1))) := rfl
theorem grd_one {k : Nat} : 0 < grd (1 :: List.replicate k 0) := by
  obtain ⟨j, j1, j2, je⟩ := grd_at (m := 1 :: List.replicate k 0) (by simp)
  rw [je]
  have : 0 ∈ (List.range (1 :: List.replicate k (0 : Int)).length).filter fun q => decide ((1 :: List.replicate k (0 : Int)).getD q 0 ≠ (befo (1 :: List.replicate k 0) j).getD q 0) := by
    refine List.mem_filter.mpr ⟨by simp, ?_⟩
    rw [befo_getD j2 (by simp), if_pos (by omega)]
    simp
  have := List.length_pos_of_mem this
  unfold dist
  omega
theorem pick_ok {D M : List Int} {s0 s3 s4 s5 s6 s7 s8 s9 s10 s11 s12 s13 s14 s15 s16 s17 s18 s19 : Option Et} (h1 : 1 ≤ M.length) (h2 : M.length ≤ 10) :
    wp c_pick [s0, some (.fl (D.map .int)), some (.fl (M.map .int)), s3, s4, s5, s6, s7, s8, s9, s10, s11, s12, s13, s14, s15, s16, s17, s18, s19]
      fun o => ∃ m : List Int, o = .nx [s0, some (.fl (D.map .int)), some (.fl (m.map .int)), s3, s4, s5, s6, s7, s8, s9, s10, s11, s12, s13, s14, s15, s16, s17, s18, s19] ∧ 1 ≤ m.length ∧ m.length ≤ 10 ∧ 0 < grd m := by
  have gP : cP sem_guard [di M] = some (.int (grd M)) := cP_of (guard_s h1 (by omega))
  have m0 := @mix_P _ D 0 10 (by decide)
  have r0 := And.intro (@mixv_0 _ D 0 10 (by decide)) (@mixv_1 _ D 0 10 (by decide))
  have g0 : 0 ≤ grd M := by
    obtain ⟨j, _, _, e⟩ := grd_at h1
    omega
  unfold c_pick di at *
  simp -implicitDefEqProofs (maxSteps := 3000000) only [wp_seq, wp_if, wp_set, wp_ret, wp_drop, wp_app, wp_for, wp_forL, wp_frz, wp_aug, wp_fld, wp_fldA, wp_setL, wp_nil, wp_brk, wp_cont, wp_retN, thenQ_nx, thenQ_rt, thenQ_ex, thenQ_bk, thenQ_ct, setQ_ok, setQ_ex, retQ_ok, retQ_ex, dropQ_ok, dropQ_ex, fldQ_ok, bodyQ_nx, bodyQ_ct, bodyQ_bk, bodyQ_rt, bodyQ_ex, endQ_rt, endQ_nx, endQ_ex, mE_eq, mMv_eq, mV, mNoex, p_V, pC, pU, pO, pN, aNil, aCons, p_B', asB_bl, bNot, bAnd, bOr, pIf, pB, p_ch, qv_add, qv_addA, qv_addL, qv_sub, qv_mul, qv_mulL, qv_div, qv_mod, qv_pow, qv_shl, qv_shr, qv_lt, qv_le, qv_gt, qv_ge, qv_neg, qv_eqI, qv_neI, qv_eqB, qv_neB, qv_ix, qv_ixT, qv_ixR, qv_len, qv_lenT, qv_lenR, qv_abs, qv_int, qv_intB, qv_max2, qv_min2, qv_rg1, qv_rg2, qv_items, qv_itemsT, qv_itemsR, qv_lst, qv_lstR, qv_isN0, qv_isNI, qv_isNL, qv_isNT, qv_noN0, qv_noNI, qv_noNL, qv_noNT, pFld, iL, iT, iN, p_E, sc_int, sc_bl, sc_non, eF, eV, esNil, esCons, eLst, eTup, eN, eAddA, eIf, fLst, fSl, oP, fList, fCat, fRep, pF, pLst, pTup, pSl, gN, gT, gsNil, gsCons, bN, lf, bYes, finE, leaf, getS, getP, getFd, setP, setFd, setF, putE, plSlot, lenE, appE, asL, setE, toD, frz, frzAll, leafE, wipeE, kids, ex_bind, ex_map, ex_if, ex_some, List.getElem?_cons_zero, List.getElem?_cons_succ, List.set_cons_zero, List.set_cons_succ, List.length_cons, List.length_nil, List.length_map, List.map_cons, List.map_nil, List.cons_append, List.nil_append, Option.bind_some, Option.map_some, Option.bind_none, Option.map_none, Option.some.injEq, exists_eq_left, exists_eq_left', and_true, true_and, Et.n.injEq, Et.o.injEq, Et.fl.injEq, Dt.int.injEq, Dt.bl.injEq, decide_eq_true_eq, decide_eq_false_iff_not, forall_const, if_true, if_false, Bool.false_eq_true, reduceIte, List.replicate_succ, List.replicate_zero, true_implies, false_implies, reduceCtorEq, Fz.ok.injEq, List.cons.injEq, atI_map, List.length_append, appE_fl, snoc_i, fLc, cutD_map, sIx_no, all_sc, map_app, rep_fl, rep_int, intsOf_m, qv_min, qv_max, qv_sum, wp_loop0, sc_lst, sc_tup, sc_ob, mMeth, mMethT, tempOk, eMk, eM, pM, obOk, lentOk, own, owns, Bool.and_true, Bool.true_and, Bool.not_true, Bool.not_false, Bool.not_eq_true, Bool.not_eq_false, Bool.not_eq_eq_eq_not, toDs, Nat.reduceAdd, Nat.reduceLT, List.all_nil, Nat.reduceEqDiff, Nat.reduceSub, Nat.reduceMul, Int.reduceLT, Int.reduceLE, Int.reduceAdd, Int.reduceSub, Int.reduceMul, Int.reduceNeg, Int.reduceToNat, Nat.lt_irrefl, Nat.zero_le, Nat.not_lt_zero, Nat.zero_lt_succ, gP, m0]
  refine ⟨fun hg => ?_, fun hg => ⟨M, rfl, h1, h2, by omega⟩⟩
  have r1 : (List.replicate (mixv D 0 10).toNat (0 : Int)).length = (mixv D 0 10).toNat := by simp
  rw [sz, r1]
  exact ⟨by omega, by omega, ⟨by omega, by omega, by omega⟩, ⟨by omega, rfl⟩, 1 :: List.replicate (mixv D 0 10).toNat 0, rfl, by simp, by simp; omega, grd_one⟩
def plc (n p : Nat) : List (List Int × Int) → Nat → List Int
  | [], _ => []
  | q :: l, e => ((e + q.2.toNat : Nat) : Int) :: plc n p l (e + q.2.toNat + n + p)
theorem segs_len {m : List Int} {p : Nat} : ∀ {l : List (List Int × Int)}, (∀ q ∈ l, q.1.length = p) → (segs m l).length = (l.map fun q => q.2.toNat + m.length + p).sum
  | [], _ => rfl
  | q :: l, h => by
    have ih := segs_len (m := m) (l := l) fun q hq => h q (by simp [hq])
    have := h q (by simp)
    unfold segs at ih ⊢
    simp only [List.map_cons, List.flatten_cons, List.length_append, List.length_replicate, List.sum_cons]
    rw [ih, this]
theorem plc_snoc {n p : Nat} {q : List Int × Int} : ∀ {u : List (List Int × Int)} {e : Nat}, plc n p (u ++ [q]) e = plc n p u e ++ [((e + (u.map fun q => q.2.toNat + n + p).sum + q.2.toNat : Nat) : Int)]
  | [], e => by simp [plc]
  | r :: u, e => by
    show _ :: plc n p (u ++ [q]) _ = _
    rw [plc_snoc]
    simp only [plc, List.cons_append, List.map_cons, List.sum_cons]
    congr 3
    congr 1
    omega
theorem owns_app {n p : Nat} {u v : List (List Int × Int)} : ownL n p (u ++ v) = ownL n p u ++ ownL n p v := by simp [ownL]
abbrev flI (P : List Int) : Et := .fl (P.map .int)
theorem toDs_ps {Ps : List (List Int)} : toDs (Ps.map flI) = Ps.map di := by
  rw [toDs_eq, List.map_map]
  rfl
theorem ownS_sc {O : List Bool} : (O.map ownS).all sc = true := List.all_eq_true.mpr fun x hx => by
  obtain ⟨b, _, rfl⟩ := List.mem_map.mp hx
  cases b <;> rfl
theorem rep_sc {k : Nat} {x : Str} : (List.replicate k (Dt.str x)).all sc = true := List.all_eq_true.mpr fun y hy => by
  rw [List.eq_of_mem_replicate hy]
  rfl
theorem own_rep {O : List Bool} {a b : Nat} : O.map ownS ++ List.replicate a (.str "idle") ++ List.replicate b (.str "payload") = (O ++ (List.replicate a false ++ List.replicate b true)).map ownS := by
  simp [ownS]
theorem own_rep1 {O : List Bool} {a : Nat} : O.map ownS ++ List.replicate a (.str "idle") = (O ++ List.replicate a false).map ownS := by
  simp [ownS]
theorem app_sc {xs ys : List Dt} (h1 : xs.all sc = true) (h2 : ys.all sc = true) : (xs ++ ys).all sc = true := by rw [List.all_append, h1, h2]; rfl
theorem plc_len {n p : Nat} : ∀ {l : List (List Int × Int)} {e : Nat}, (plc n p l e).length = l.length
  | [], _ => rfl
  | q :: l, e => by
    show (plc n p l _).length + 1 = _
    rw [plc_len]
    rfl
theorem ownL_len {n p : Nat} : ∀ {l : List (List Int × Int)}, (ownL n p l).length = (l.map fun q => q.2.toNat + n + p).sum
  | [] => rfl
  | q :: l => by
    have ih := ownL_len (n := n) (p := p) (l := l)
    unfold ownL at ih ⊢
    simp only [List.map_cons, List.flatten_cons, List.length_append, List.length_replicate, List.sum_cons]
    rw [ih]
theorem ownL_app {n p : Nat} {u v : List (List Int × Int)} : ownL n p (u ++ v) = ownL n p u ++ ownL n p v := by simp [ownL]
theorem loop1_ok {m : List Int} {Ps : List (List Int)} {Is : List Int} {p : Nat} {s0 s1 s3 s7 s11 s12 s13 s14 s15 s16 s17 s18 s19 : Option Et} (hl : Is.length = Ps.length + 1) (h0 : ∀ i ∈ Is, 0 ≤ i ∧ i < 1000) (hP : ∀ P ∈ Ps, P.length = p) (hp : p < 1000) (hm : m.length < 1000) (hn : Ps.length < 100) :
    wp c_loop1 [s0, s1, some (.fl (m.map .int)), s3, some (.n (.int p)), some (.lst (Ps.map flI)), some (.fl (Is.map .int)), s7, some (.fl []), some (.fl []), some (.fl []), s11, s12, s13, s14, s15, s16, s17, s18, s19]
      fun o => ∃ x, o = .nx [s0, s1, some (.fl (m.map .int)), s3, some (.n (.int p)), some (.lst (Ps.map flI)), some (.fl (Is.map .int)), s7, some (.fl ((segs m (Ps.zip Is)).map .int)), some (.fl ((ownL m.length p (Ps.zip Is)).map ownS)), some (.fl ((plc m.length p (Ps.zip Is) 0).map .int)), x, s12, s13, s14, s15, s16, s17, s18, s19] := by
  unfold c_loop1
  simp -implicitDefEqProofs (maxSteps := 3000000) only [wp_seq, wp_if, wp_set, wp_ret, wp_drop, wp_app, wp_for, wp_forL, wp_frz, wp_aug, wp_fld, wp_fldA, wp_setL, wp_nil, wp_brk, wp_cont, wp_retN, thenQ_nx, thenQ_rt, thenQ_ex, thenQ_bk, thenQ_ct, setQ_ok, setQ_ex, retQ_ok, retQ_ex, dropQ_ok, dropQ_ex, fldQ_ok, bodyQ_nx, bodyQ_ct, bodyQ_bk, bodyQ_rt, bodyQ_ex, endQ_rt, endQ_nx, endQ_ex, mE_eq, mMv_eq, mV, mNoex, p_V, pC, pU, pO, pN, aNil, aCons, p_B', asB_bl, bNot, bAnd, bOr, pIf, pB, p_ch, qv_add, qv_addA, qv_addL, qv_sub, qv_mul, qv_mulL, qv_div, qv_mod, qv_pow, qv_shl, qv_shr, qv_lt, qv_le, qv_gt, qv_ge, qv_neg, qv_eqI, qv_neI, qv_eqB, qv_neB, qv_ix, qv_ixT, qv_ixR, qv_len, qv_lenT, qv_lenR, qv_abs, qv_int, qv_intB, qv_max2, qv_min2, qv_rg1, qv_rg2, qv_items, qv_itemsT, qv_itemsR, qv_lst, qv_lstR, qv_isN0, qv_isNI, qv_isNL, qv_isNT, qv_noN0, qv_noNI, qv_noNL, qv_noNT, pFld, iL, iT, iN, p_E, sc_int, sc_bl, sc_non, eF, eV, esNil, esCons, eLst, eTup, eN, eAddA, eIf, fLst, fSl, oP, fList, fCat, fRep, pF, pLst, pTup, pSl, gN, gT, gsNil, gsCons, bN, lf, bYes, finE, leaf, getS, getP, getFd, setP, setFd, setF, putE, plSlot, lenE, appE, asL, setE, toD, frz, frzAll, leafE, wipeE, kids, ex_bind, ex_map, ex_if, ex_some, List.getElem?_cons_zero, List.getElem?_cons_succ, List.set_cons_zero, List.set_cons_succ, List.length_cons, List.length_nil, List.length_map, List.map_cons, List.map_nil, List.cons_append, List.nil_append, Option.bind_some, Option.map_some, Option.bind_none, Option.map_none, Option.some.injEq, exists_eq_left, exists_eq_left', and_true, true_and, Et.n.injEq, Et.o.injEq, Et.fl.injEq, Dt.int.injEq, Dt.bl.injEq, decide_eq_true_eq, decide_eq_false_iff_not, forall_const, if_true, if_false, Bool.false_eq_true, reduceIte, List.replicate_succ, List.replicate_zero, true_implies, false_implies, reduceCtorEq, Fz.ok.injEq, List.cons.injEq, atI_map, List.length_append, appE_fl, snoc_i, fLc, cutD_map, sIx_no, all_sc, map_app, rep_fl, rep_int, intsOf_m, qv_min, qv_max, qv_sum, wp_loop0, sc_lst, sc_tup, sc_ob, mMeth, mMethT, tempOk, eMk, eM, pM, obOk, lentOk, own, owns, Bool.and_true, Bool.true_and, Bool.not_true, Bool.not_false, Bool.not_eq_true, Bool.not_eq_false, Bool.not_eq_eq_eq_not, toDs, Nat.reduceAdd, Nat.reduceLT, List.all_nil, Nat.reduceEqDiff, Nat.reduceSub, Nat.reduceMul, Int.reduceLT, Int.reduceLE, Int.reduceAdd, Int.reduceSub, Int.reduceMul, Int.reduceNeg, Int.reduceToNat, Nat.lt_irrefl, Nat.zero_le, Nat.not_lt_zero, Nat.zero_lt_succ, toDs_ps]
  refine ⟨by unfold lim62; omega, ?_⟩
  rw [Int.toNat_natCast]
  have zl : (Ps.zip Is).length = Ps.length := by rw [List.length_zip]; omega
  have bnd : ∀ k, ((((Ps.zip Is).take k).map fun q => q.2.toNat + m.length + p).sum ≤ 3000 * k) := fun k => by
    have gen : ∀ l : List (List Int × Int), (∀ q ∈ l, q ∈ Ps.zip Is) → (l.map fun q => q.2.toNat + m.length + p).sum ≤ 3000 * l.length := by
      intro l
      induction l with
      | nil => intro _; simp
      | cons q l ih =>
        intro h
        have ih := ih fun q hq => h q (by simp [hq])
        have := h0 _ (List.of_mem_zip (h q (by simp))).2
        rw [List.map_cons, List.sum_cons, List.length_cons]
        omega
    have := gen ((Ps.zip Is).take k) fun q hq => List.mem_of_mem_take hq
    have l2 : ((Ps.zip Is).take k).length ≤ k := by rw [List.length_take]; omega
    omega
  refine wp_range (fun k ρ => ∃ x, ρ = [s0, s1, some (.fl (m.map .int)), s3, some (.n (.int p)), some (.lst (Ps.map flI)), some (.fl (Is.map .int)), s7, some (.fl ((segs m ((Ps.zip Is).take k)).map .int)), some (.fl ((ownL m.length p ((Ps.zip Is).take k)).map ownS)), some (.fl ((plc m.length p ((Ps.zip Is).take k) 0).map .int)), x, s12, s13, s14, s15, s16, s17, s18, s19]) ⟨s11, rfl⟩ ?_ ?_
  · rintro k ρ hk ⟨x, rfl⟩
    have hq : (Ps.zip Is)[k]? = some ((Ps.zip Is)[k]'(by omega)) := List.getElem?_eq_getElem (by omega)
    generalize hqq : (Ps.zip Is)[k]'(by omega) = q at hq
    have tk : (Ps.zip Is).take (k + 1) = (Ps.zip Is).take k ++ [q] := by rw [List.take_succ, hq]; rfl
    have hz := hq
    rw [List.getElem?_zip_eq_some] at hz
    have hmem : q ∈ Ps.zip Is := List.mem_of_getElem? hq
    have q1 := hP _ (List.of_mem_zip hmem).1
    have q2 := h0 _ (List.of_mem_zip hmem).2
    have eP : atI Ps (0 + (k : Int) * 1) = some q.1 := by rw [atI_nat (by omega) (by omega), show (0 + (k : Int) * 1).toNat = k by omega]; exact hz.1
    have eI : atI Is (0 + (k : Int) * 1) = some q.2 := by rw [atI_nat (by omega) (by omega), show (0 + (k : Int) * 1).toNat = k by omega]; exact hz.2
    have sl : (segs m ((Ps.zip Is).take k)).length = (((Ps.zip Is).take k).map fun q => q.2.toNat + m.length + p).sum := segs_len fun q hq => hP _ (List.of_mem_zip (List.mem_of_mem_take hq)).1
    have b1 := bnd k
    have tl : ((Ps.zip Is).take k).length = k := by rw [List.length_take]; omega
    have eidle : (q.2 + (m.length : Int)).toNat = q.2.toNat + m.length := by omega
    simp -implicitDefEqProofs (maxSteps := 3000000) only [wp_seq, wp_if, wp_set, wp_ret, wp_drop, wp_app, wp_for, wp_forL, wp_frz, wp_aug, wp_fld, wp_fldA, wp_setL, wp_nil, wp_brk, wp_cont, wp_retN, thenQ_nx, thenQ_rt, thenQ_ex, thenQ_bk, thenQ_ct, setQ_ok, setQ_ex, retQ_ok, retQ_ex, dropQ_ok, dropQ_ex, fldQ_ok, bodyQ_nx, bodyQ_ct, bodyQ_bk, bodyQ_rt, bodyQ_ex, endQ_rt, endQ_nx, endQ_ex, mE_eq, mMv_eq, mV, mNoex, p_V, pC, pU, pO, pN, aNil, aCons, p_B', asB_bl, bNot, bAnd, bOr, pIf, pB, p_ch, qv_add, qv_addA, qv_addL, qv_sub, qv_mul, qv_mulL, qv_div, qv_mod, qv_pow, qv_shl, qv_shr, qv_lt, qv_le, qv_gt, qv_ge, qv_neg, qv_eqI, qv_neI, qv_eqB, qv_neB, qv_ix, qv_ixT, qv_ixR, qv_len, qv_lenT, qv_lenR, qv_abs, qv_int, qv_intB, qv_max2, qv_min2, qv_rg1, qv_rg2, qv_items, qv_itemsT, qv_itemsR, qv_lst, qv_lstR, qv_isN0, qv_isNI, qv_isNL, qv_isNT, qv_noN0, qv_noNI, qv_noNL, qv_noNT, pFld, iL, iT, iN, p_E, sc_int, sc_bl, sc_non, eF, eV, esNil, esCons, eLst, eTup, eN, eAddA, eIf, fLst, fSl, oP, fList, fCat, fRep, pF, pLst, pTup, pSl, gN, gT, gsNil, gsCons, bN, lf, bYes, finE, leaf, getS, getP, getFd, setP, setFd, setF, putE, plSlot, lenE, appE, asL, setE, toD, frz, frzAll, leafE, wipeE, kids, ex_bind, ex_map, ex_if, ex_some, List.getElem?_cons_zero, List.getElem?_cons_succ, List.set_cons_zero, List.set_cons_succ, List.length_cons, List.length_nil, List.length_map, List.map_cons, List.map_nil, List.cons_append, List.nil_append, Option.bind_some, Option.map_some, Option.bind_none, Option.map_none, Option.some.injEq, exists_eq_left, exists_eq_left', and_true, true_and, Et.n.injEq, Et.o.injEq, Et.fl.injEq, Dt.int.injEq, Dt.bl.injEq, decide_eq_true_eq, decide_eq_false_iff_not, forall_const, if_true, if_false, Bool.false_eq_true, reduceIte, List.replicate_succ, List.replicate_zero, true_implies, false_implies, reduceCtorEq, Fz.ok.injEq, List.cons.injEq, atI_map, List.length_append, appE_fl, snoc_i, fLc, cutD_map, sIx_no, all_sc, map_app, rep_fl, rep_int, intsOf_m, qv_min, qv_max, qv_sum, wp_loop0, sc_lst, sc_tup, sc_ob, mMeth, mMethT, tempOk, eMk, eM, pM, obOk, lentOk, own, owns, Bool.and_true, Bool.true_and, Bool.not_true, Bool.not_false, Bool.not_eq_true, Bool.not_eq_false, Bool.not_eq_eq_eq_not, toDs, Nat.reduceAdd, Nat.reduceLT, List.all_nil, Nat.reduceEqDiff, Nat.reduceSub, Nat.reduceMul, Int.reduceLT, Int.reduceLE, Int.reduceAdd, Int.reduceSub, Int.reduceMul, Int.reduceNeg, Int.reduceToNat, Nat.lt_irrefl, Nat.zero_le, Nat.not_lt_zero, Nat.zero_lt_succ, toDs_ps, eP, eI, sz]
    simp only [List.length_replicate, plc_len, ownL_len, sl, tl, eidle, Int.toNat_natCast]
    refine ⟨by omega, by omega, ⟨by omega, by omega, by omega⟩, by omega, by omega, by omega, by omega, ⟨by omega, by omega, by omega⟩, by omega, by omega, ⟨by omega, by omega, by omega⟩, ⟨by omega, app_sc ownS_sc rep_sc, rep_sc⟩, _, ?_, ?_, ?_, rfl⟩
    · rw [tk, segs_app]
      simp [segs]
    · rw [own_rep, tk, ownL_app]
      simp [ownL]
    · rw [tk, plc_snoc]
      congr 3
      congr 1
      omega
  · rintro ρ ⟨x, rfl⟩
    rw [List.take_of_length_le (by omega)]
    exact ⟨x, rfl⟩
end T32
namespace T32
open PySem PySem.Spec PyProof.Rows L2 Qs
variable [CTab]
theorem atI_two {k : Nat} : ∃ c : Int, 0 < c ∧ c ≤ 25 ∧ atI [Dt.int 3, Dt.int 25] ((0 + (k : Int) * 1) % 2) = some (.int c) := by
  rcases Int.emod_two_eq (0 + (k : Int) * 1) with h | h
  · rw [h]
    exact ⟨3, by decide, by decide, by rw [atI_nat (by decide) (by decide)]; rfl⟩
  · rw [h]
    exact ⟨25, by decide, by decide, by rw [atI_nat (by decide) (by decide)]; rfl⟩
theorem elE_fs {b : Nat} {fs : List (Nat × List Dt)} : elE (fsE b fs) = some (fs.map (frE b)) := by
  cases fs <;> rfl
theorem toDs_fs {b : Nat} : ∀ {fs : List (Nat × List Dt)}, toDs (fs.map (frE b)) = fs.map (frD b) := by
  intro fs
  rw [toDs_eq, List.map_map]
  rfl
theorem toDs_n : ∀ {ds : List Dt}, toDs (ds.map Et.n) = ds := by
  intro ds
  rw [toDs_eq, List.map_map]
  induction ds with
  | nil => rfl
  | cons d ds ih => rw [List.map_cons, ih]; rfl
theorem own_all {es : List Et} (h : ∀ e ∈ es, own e = true) : Qs.owns es = true := by
  induction es with
  | nil => rfl
  | cons e es ih => rw [Qs.owns, h e (by simp), ih fun x hx => h x (by simp [hx])]; rfl
theorem srch_cnt {B m : List Dt} {t : Int} {p : Nat} (h1 : 1 ≤ m.length) : ∀ {x : Nat} {w0 : Bool} {fs : List (Nat × List Dt)} {b : Nat} {w : Bool}, Srch B m t p x w0 fs b w → x + fs.length ≤ b := by
  intro x w0 fs b w h
  induction h with
  | no a1 a2 a3 a4 => simpa using a1
  | part a1 a2 a3 a4 a5 => simpa using a1
  | yes a1 a2 a3 a4 a5 ih => simp only [List.length_cons]; omega
  | still a1 a2 => simp
  | went a1 a2 ih => simp only [List.length_cons]; omega
theorem loop2_ok {D R m : List Int} {T : Int} {p : Nat} {s0 s2 s4 s5 s6 s7 s8 s9 s10 s11 s16 s17 s18 s19 : Option Et} (h1 : 1 ≤ m.length) (h2 : m.length ≤ 32) (hR : R.length < 400000) (hD : True) :
    wp c_loop2 [s0, some (.fl (D.map .int)), s2, some (.n (.int T)), s4, s5, s6, s7, s8, s9, s10, s11, some (.fl (R.map .int)), some (fob (m.map .int) T p [] 0 false), some (.fl []), some (.n (.int 0)), s16, s17, s18, s19]
      fun o => ∃ x13 x14 x15 x16 x17 FS b w, o = .nx [s0, some (.fl (D.map .int)), s2, some (.n (.int T)), s4, s5, s6, s7, s8, s9, s10, s11, some (.fl (R.map .int)), x13, some x14, x15, x16, x17, s18, s19] ∧ toD x14 = .lst (FS.map (frD 0)) ∧ Srch (R.map .int) (m.map .int) T p 0 false FS b w := by
  unfold c_loop2
  simp -implicitDefEqProofs (maxSteps := 3000000) only [wp_seq, wp_if, wp_set, wp_ret, wp_drop, wp_app, wp_for, wp_forL, wp_frz, wp_aug, wp_fld, wp_fldA, wp_setL, wp_nil, wp_brk, wp_cont, wp_retN, thenQ_nx, thenQ_rt, thenQ_ex, thenQ_bk, thenQ_ct, setQ_ok, setQ_ex, retQ_ok, retQ_ex, dropQ_ok, dropQ_ex, fldQ_ok, bodyQ_nx, bodyQ_ct, bodyQ_bk, bodyQ_rt, bodyQ_ex, endQ_rt, endQ_nx, endQ_ex, mE_eq, mMv_eq, mV, mNoex, p_V, pC, pU, pO, pN, aNil, aCons, p_B', asB_bl, bNot, bAnd, bOr, pIf, pB, p_ch, qv_add, qv_addA, qv_addL, qv_sub, qv_mul, qv_mulL, qv_div, qv_mod, qv_pow, qv_shl, qv_shr, qv_lt, qv_le, qv_gt, qv_ge, qv_neg, qv_eqI, qv_neI, qv_eqB, qv_neB, qv_ix, qv_ixT, qv_ixR, qv_len, qv_lenT, qv_lenR, qv_abs, qv_int, qv_intB, qv_max2, qv_min2, qv_rg1, qv_rg2, qv_items, qv_itemsT, qv_itemsR, qv_lst, qv_lstR, qv_isN0, qv_isNI, qv_isNL, qv_isNT, qv_noN0, qv_noNI, qv_noNL, qv_noNT, pFld, iL, iT, iN, p_E, sc_int, sc_bl, sc_non, eF, eV, esNil, esCons, eLst, eTup, eN, eAddA, eIf, fLst, fSl, oP, fList, fCat, fRep, pF, pLst, pTup, pSl, gN, gT, gsNil, gsCons, bN, lf, bYes, finE, leaf, getS, getP, getFd, setP, setFd, setF, putE, plSlot, lenE, appE, asL, setE, toD, frz, frzAll, leafE, wipeE, kids, ex_bind, ex_map, ex_if, ex_some, List.getElem?_cons_zero, List.getElem?_cons_succ, List.set_cons_zero, List.set_cons_succ, List.length_cons, List.length_nil, List.length_map, List.map_cons, List.map_nil, List.cons_append, List.nil_append, Option.bind_some, Option.map_some, Option.bind_none, Option.map_none, Option.some.injEq, exists_eq_left, exists_eq_left', and_true, true_and, Et.n.injEq, Et.o.injEq, Et.fl.injEq, Dt.int.injEq, Dt.bl.injEq, decide_eq_true_eq, decide_eq_false_iff_not, forall_const, if_true, if_false, Bool.false_eq_true, reduceIte, List.replicate_succ, List.replicate_zero, true_implies, false_implies, reduceCtorEq, Fz.ok.injEq, List.cons.injEq, atI_map, List.length_append, appE_fl, snoc_i, fLc, cutD_map, sIx_no, all_sc, map_app, rep_fl, rep_int, intsOf_m, qv_min, qv_max, qv_sum, wp_loop0, sc_lst, sc_tup, sc_ob, mMeth, mMethT, tempOk, eMk, eM, pM, obOk, lentOk, own, owns, Bool.and_true, Bool.true_and, Bool.not_true, Bool.not_false, Bool.not_eq_true, Bool.not_eq_false, Bool.not_eq_eq_eq_not, toDs, Nat.reduceAdd, Nat.reduceLT, List.all_nil, Nat.reduceEqDiff, Nat.reduceSub, Nat.reduceMul, Int.reduceLT, Int.reduceLE, Int.reduceAdd, Int.reduceSub, Int.reduceMul, Int.reduceNeg, Int.reduceToNat, Nat.lt_irrefl, Nat.zero_le, Nat.not_lt_zero, Nat.zero_lt_succ]
  refine ⟨by unfold lim62; omega, ?_⟩
  have er : ((R.length : Int) + 1).toNat = R.length + 1 := by omega
  rw [er]
  refine wp_range (fun k ρ => ∃ (L b : Nat) (w : Bool) (FS : List (Nat × List Dt)) (e14 : Et) (x16 x17 : Option Et), ρ = [s0, some (.fl (D.map .int)), s2, some (.n (.int T)), s4, s5, s6, s7, s8, s9, s10, s11, some (.fl (R.map .int)), some (fob (m.map .int) T p (((R.take L).map Dt.int).drop b) b w), some e14, some (.n (.int L)), x16, x17, s18, s19] ∧ L ≤ R.length ∧ (k ≤ L ∨ L = R.length) ∧ own e14 = true ∧ toD e14 = .lst (FS.map (frD 0)) ∧ Srch ((R.take L).map .int) (m.map .int) T p 0 false FS b w) ⟨0, 0, false, [], .fl [], s16, s17, rfl, Nat.zero_le _, .inl (Nat.le_refl _), rfl, rfl, .no (Nat.le_refl _) ⟨Nat.zero_le _, .inl rfl⟩ (fun y a b => by omega) (by simp; omega)⟩ ?_ ?_
  · rintro k ρ hk ⟨L, b, w, FS, e14, x16, x17, rfl, hL, hkL, ho, hd, hs⟩
    obtain ⟨c, c0, c1, ec⟩ := @atI_two _ k
    have mc := @mix_P _ D (120 + (0 + (k : Int) * 1)) c c0
    have rc := And.intro (@mixv_0 _ D (120 + (0 + (k : Int) * 1)) c c0) (@mixv_1 _ D (120 + (0 + (k : Int) * 1)) c c0)
    generalize mixv D (120 + (0 + (k : Int) * 1)) c = v at mc rc
    have fz : frz e14 = .n (.lst (FS.map (frD 0))) := by
      unfold frz
      rw [if_pos ho, hd]
    unfold di at mc
    simp -implicitDefEqProofs (maxSteps := 3000000) only [wp_seq, wp_if, wp_set, wp_ret, wp_drop, wp_app, wp_for, wp_forL, wp_frz, wp_aug, wp_fld, wp_fldA, wp_setL, wp_nil, wp_brk, wp_cont, wp_retN, thenQ_nx, thenQ_rt, thenQ_ex, thenQ_bk, thenQ_ct, setQ_ok, setQ_ex, retQ_ok, retQ_ex, dropQ_ok, dropQ_ex, fldQ_ok, bodyQ_nx, bodyQ_ct, bodyQ_bk, bodyQ_rt, bodyQ_ex, endQ_rt, endQ_nx, endQ_ex, mE_eq, mMv_eq, mV, mNoex, p_V, pC, pU, pO, pN, aNil, aCons, p_B', asB_bl, bNot, bAnd, bOr, pIf, pB, p_ch, qv_add, qv_addA, qv_addL, qv_sub, qv_mul, qv_mulL, qv_div, qv_mod, qv_pow, qv_shl, qv_shr, qv_lt, qv_le, qv_gt, qv_ge, qv_neg, qv_eqI, qv_neI, qv_eqB, qv_neB, qv_ix, qv_ixT, qv_ixR, qv_len, qv_lenT, qv_lenR, qv_abs, qv_int, qv_intB, qv_max2, qv_min2, qv_rg1, qv_rg2, qv_items, qv_itemsT, qv_itemsR, qv_lst, qv_lstR, qv_isN0, qv_isNI, qv_isNL, qv_isNT, qv_noN0, qv_noNI, qv_noNL, qv_noNT, pFld, iL, iT, iN, p_E, sc_int, sc_bl, sc_non, eF, eV, esNil, esCons, eLst, eTup, eN, eAddA, eIf, fLst, fSl, oP, fList, fCat, fRep, pF, pLst, pTup, pSl, gN, gT, gsNil, gsCons, bN, lf, bYes, finE, leaf, getS, getP, getFd, setP, setFd, setF, putE, plSlot, lenE, appE, asL, setE, toD, frz, frzAll, leafE, wipeE, kids, ex_bind, ex_map, ex_if, ex_some, List.getElem?_cons_zero, List.getElem?_cons_succ, List.set_cons_zero, List.set_cons_succ, List.length_cons, List.length_nil, List.length_map, List.map_cons, List.map_nil, List.cons_append, List.nil_append, Option.bind_some, Option.map_some, Option.bind_none, Option.map_none, Option.some.injEq, exists_eq_left, exists_eq_left', and_true, true_and, Et.n.injEq, Et.o.injEq, Et.fl.injEq, Dt.int.injEq, Dt.bl.injEq, decide_eq_true_eq, decide_eq_false_iff_not, forall_const, if_true, if_false, Bool.false_eq_true, reduceIte, List.replicate_succ, List.replicate_zero, true_implies, false_implies, reduceCtorEq, Fz.ok.injEq, List.cons.injEq, atI_map, List.length_append, appE_fl, snoc_i, fLc, cutD_map, sIx_no, all_sc, map_app, rep_fl, rep_int, intsOf_m, qv_min, qv_max, qv_sum, wp_loop0, sc_lst, sc_tup, sc_ob, mMeth, mMethT, tempOk, eMk, eM, pM, obOk, lentOk, own, owns, Bool.and_true, Bool.true_and, Bool.not_true, Bool.not_false, Bool.not_eq_true, Bool.not_eq_false, Bool.not_eq_eq_eq_not, toDs, Nat.reduceAdd, Nat.reduceLT, List.all_nil, Nat.reduceEqDiff, Nat.reduceSub, Nat.reduceMul, Int.reduceLT, Int.reduceLE, Int.reduceAdd, Int.reduceSub, Int.reduceMul, Int.reduceNeg, Int.reduceToNat, Nat.lt_irrefl, Nat.zero_le, Nat.not_lt_zero, Nat.zero_lt_succ, ec, mc]
    have hcut : (List.take (HT.sIx R.length R.length (some ((L : Int) + 1 + v)) - HT.sIx R.length 0 (some (L : Int))) (List.drop (HT.sIx R.length 0 (some (L : Int))) R)) = (R.drop L).take (min (L + 1 + v.toNat) R.length - L) := by
      rw [sIx_pos (by omega), sIx_pos (by omega), Int.toNat_natCast, show ((L : Int) + 1 + v).toNat = L + 1 + v.toNat by omega, Nat.min_eq_left hL]
    rw [hcut]
    have hcc : ∃ cc, cc = min (L + 1 + v.toNat) R.length - L := ⟨_, rfl⟩
    obtain ⟨cc, hcc⟩ := hcc
    rw [← hcc]
    have tk : R.take (L + cc) = R.take L ++ (R.drop L).take cc := List.take_add
    have lC : ((R.drop L).take cc).length = cc := by rw [List.length_take, List.length_drop]; omega
    have bL : b ≤ ((R.take L).map Dt.int).length := srch_end hs
    have lT : ((R.take L).map Dt.int).length = L := by rw [List.length_map, List.length_take]; omega
    obtain ⟨fs, a, w', el, es, ea⟩ := feed_s (m := m.map .int) (H := ((R.take L).map Dt.int).drop b) (C := ((R.drop L).take cc).map .int) (t := T) (p := p) (pl := b) (w := w) inB_i (fun x hx => inB_i x (List.mem_of_mem_drop hx)) inB_i (by rw [List.length_map]; exact h1) (by rw [List.length_map]; exact h2) (by rw [List.length_drop, lT, List.length_map, lC]; omega) (by omega)
    have eH : ((R.take L).map Dt.int).drop b ++ ((R.drop L).take cc).map .int = ((R.take (L + cc)).map Dt.int).drop b := by
      rw [tk, List.map_append, List.drop_append_of_le_length bL]
    rw [eH] at el es ea
    rw [Int.toNat_natCast] at es
    have hs2 : Srch ((R.take (L + cc)).map .int) (m.map .int) T p 0 false (FS ++ fs.map fun f => (b + f.1, f.2)) (b + a) w' := by
      have k1 := srch_shift (by rw [tk, List.map_append, List.length_append]; omega) es
      rw [Nat.add_zero] at k1
      have k2 := srch_more (C := ((R.drop L).take cc).map .int) hs (gs := fs.map fun f => (b + f.1, f.2)) (z := b + a) (w' := w')
      rw [← List.map_append, ← tk] at k2
      exact k2 k1
    have lfs := srch_cnt (by rw [List.length_map]; exact h1) hs2
    have le2 := srch_end hs2
    rw [List.length_append, List.length_map] at lfs
    have l5 : ((R.take (L + cc)).map Dt.int).length ≤ R.length := by rw [List.length_map, List.length_take]; omega
    refine ⟨by decide, .ok (.lst ((FS.map (frD 0)).map .n ++ fs.map (frE b))) [s0, some (.fl (D.map .int)), s2, some (.n (.int T)), s4, s5, s6, s7, s8, s9, s10, s11, some (.fl (R.map .int)), some (fob (m.map .int) T p ((((R.take (L + cc)).map Dt.int).drop b).drop a) ((b + a : Nat) : Int) w'), some (.n (.lst (FS.map (frD 0)))), some (.n (.int L)), some (.n (.int (0 + (k : Int) * 1))), some (.fl (((R.drop L).take cc).map .int)), s18, s19], ?_, ?_⟩
    · unfold fob at el ⊢
      have hcat : catE (.n (.lst (FS.map (frD 0)))) (fsE b fs) = some (.lst ((FS.map (frD 0)).map .n ++ fs.map (frE b))) := wp_catE rfl elE_fs (by rw [List.length_map, List.length_map, List.length_map, sz]; omega)
      simp -implicitDefEqProofs (maxSteps := 3000000) only [wp_seq, wp_if, wp_set, wp_ret, wp_drop, wp_app, wp_for, wp_forL, wp_frz, wp_aug, wp_fld, wp_fldA, wp_setL, wp_nil, wp_brk, wp_cont, wp_retN, thenQ_nx, thenQ_rt, thenQ_ex, thenQ_bk, thenQ_ct, setQ_ok, setQ_ex, retQ_ok, retQ_ex, dropQ_ok, dropQ_ex, fldQ_ok, bodyQ_nx, bodyQ_ct, bodyQ_bk, bodyQ_rt, bodyQ_ex, endQ_rt, endQ_nx, endQ_ex, mE_eq, mMv_eq, mV, mNoex, p_V, pC, pU, pO, pN, aNil, aCons, p_B', asB_bl, bNot, bAnd, bOr, pIf, pB, p_ch, qv_add, qv_addA, qv_addL, qv_sub, qv_mul, qv_mulL, qv_div, qv_mod, qv_pow, qv_shl, qv_shr, qv_lt, qv_le, qv_gt, qv_ge, qv_neg, qv_eqI, qv_neI, qv_eqB, qv_neB, qv_ix, qv_ixT, qv_ixR, qv_len, qv_lenT, qv_lenR, qv_abs, qv_int, qv_intB, qv_max2, qv_min2, qv_rg1, qv_rg2, qv_items, qv_itemsT, qv_itemsR, qv_lst, qv_lstR, qv_isN0, qv_isNI, qv_isNL, qv_isNT, qv_noN0, qv_noNI, qv_noNL, qv_noNT, pFld, iL, iT, iN, p_E, sc_int, sc_bl, sc_non, eF, eV, esNil, esCons, eLst, eTup, eN, eAddA, eIf, fLst, fSl, oP, fList, fCat, fRep, pF, pLst, pTup, pSl, gN, gT, gsNil, gsCons, bN, lf, bYes, finE, leaf, getS, getP, getFd, setP, setFd, setF, putE, plSlot, asL, setE, toD, frz, frzAll, leafE, wipeE, kids, ex_bind, ex_map, ex_if, ex_some, List.getElem?_cons_zero, List.getElem?_cons_succ, List.set_cons_zero, List.set_cons_succ, List.length_cons, List.length_nil, List.length_map, List.map_cons, List.map_nil, List.cons_append, List.nil_append, Option.bind_some, Option.map_some, Option.bind_none, Option.map_none, Option.some.injEq, exists_eq_left, exists_eq_left', and_true, true_and, Et.n.injEq, Et.o.injEq, Et.fl.injEq, Dt.int.injEq, Dt.bl.injEq, decide_eq_true_eq, decide_eq_false_iff_not, forall_const, if_true, if_false, Bool.false_eq_true, reduceIte, List.replicate_succ, List.replicate_zero, true_implies, false_implies, reduceCtorEq, Fz.ok.injEq, List.cons.injEq, atI_map, List.length_append, snoc_i, fLc, cutD_map, sIx_no, all_sc, map_app, rep_fl, rep_int, intsOf_m, qv_min, qv_max, qv_sum, wp_loop0, sc_lst, sc_tup, sc_ob, mMeth, mMethT, tempOk, eMk, eM, pM, obOk, lentOk, own, owns, Bool.and_true, Bool.true_and, Bool.not_true, Bool.not_false, Bool.not_eq_true, Bool.not_eq_false, Bool.not_eq_eq_eq_not, toDs, Nat.reduceAdd, Nat.reduceLT, List.all_nil, Nat.reduceEqDiff, Nat.reduceSub, Nat.reduceMul, Int.reduceLT, Int.reduceLE, Int.reduceAdd, Int.reduceSub, Int.reduceMul, Int.reduceNeg, Int.reduceToNat, Nat.lt_irrefl, Nat.zero_le, Nat.not_lt_zero, Nat.zero_lt_succ, mCat, ho, hd, el, fsE_own, hcat]
    · simp -implicitDefEqProofs (maxSteps := 3000000) only [wp_seq, wp_if, wp_set, wp_ret, wp_drop, wp_app, wp_for, wp_forL, wp_frz, wp_aug, wp_fld, wp_fldA, wp_setL, wp_nil, wp_brk, wp_cont, wp_retN, thenQ_nx, thenQ_rt, thenQ_ex, thenQ_bk, thenQ_ct, setQ_ok, setQ_ex, retQ_ok, retQ_ex, dropQ_ok, dropQ_ex, fldQ_ok, bodyQ_nx, bodyQ_ct, bodyQ_bk, bodyQ_rt, bodyQ_ex, endQ_rt, endQ_nx, endQ_ex, mE_eq, mMv_eq, mV, mNoex, p_V, pC, pU, pO, pN, aNil, aCons, p_B', asB_bl, bNot, bAnd, bOr, pIf, pB, p_ch, qv_add, qv_addA, qv_addL, qv_sub, qv_mul, qv_mulL, qv_div, qv_mod, qv_pow, qv_shl, qv_shr, qv_lt, qv_le, qv_gt, qv_ge, qv_neg, qv_eqI, qv_neI, qv_eqB, qv_neB, qv_ix, qv_ixT, qv_ixR, qv_len, qv_lenT, qv_lenR, qv_abs, qv_int, qv_intB, qv_max2, qv_min2, qv_rg1, qv_rg2, qv_items, qv_itemsT, qv_itemsR, qv_lst, qv_lstR, qv_isN0, qv_isNI, qv_isNL, qv_isNT, qv_noN0, qv_noNI, qv_noNL, qv_noNT, pFld, iL, iT, iN, p_E, sc_int, sc_bl, sc_non, eF, eV, esNil, esCons, eLst, eTup, eN, eAddA, eIf, fLst, fSl, oP, fList, fCat, fRep, pF, pLst, pTup, pSl, gN, gT, gsNil, gsCons, bN, lf, bYes, finE, leaf, getS, getP, getFd, setP, setFd, setF, putE, plSlot, asL, setE, toD, frz, frzAll, leafE, wipeE, kids, ex_bind, ex_map, ex_if, ex_some, List.getElem?_cons_zero, List.getElem?_cons_succ, List.set_cons_zero, List.set_cons_succ, List.length_cons, List.length_nil, List.length_map, List.map_cons, List.map_nil, List.cons_append, List.nil_append, Option.bind_some, Option.map_some, Option.bind_none, Option.map_none, Option.some.injEq, exists_eq_left, exists_eq_left', and_true, true_and, Et.n.injEq, Et.o.injEq, Et.fl.injEq, Dt.int.injEq, Dt.bl.injEq, decide_eq_true_eq, decide_eq_false_iff_not, forall_const, if_true, if_false, Bool.false_eq_true, reduceIte, List.replicate_succ, List.replicate_zero, true_implies, false_implies, reduceCtorEq, Fz.ok.injEq, List.cons.injEq, atI_map, List.length_append, snoc_i, fLc, cutD_map, sIx_no, all_sc, map_app, rep_fl, rep_int, intsOf_m, qv_min, qv_max, qv_sum, wp_loop0, sc_lst, sc_tup, sc_ob, mMeth, mMethT, tempOk, eMk, eM, pM, obOk, lentOk, own, owns, Bool.and_true, Bool.true_and, Bool.not_true, Bool.not_false, Bool.not_eq_true, Bool.not_eq_false, Bool.not_eq_eq_eq_not, toDs, Nat.reduceAdd, Nat.reduceLT, List.all_nil, Nat.reduceEqDiff, Nat.reduceSub, Nat.reduceMul, Int.reduceLT, Int.reduceLE, Int.reduceAdd, Int.reduceSub, Int.reduceMul, Int.reduceNeg, Int.reduceToNat, Nat.lt_irrefl, Nat.zero_le, Nat.not_lt_zero, Nat.zero_lt_succ]
      refine ⟨L + cc, b + a, w', FS ++ fs.map fun f => (b + f.1, f.2), _, _, _, ⟨by rw [List.drop_drop], rfl, by rw [lC]; omega, rfl, rfl⟩, by omega, by omega, own_all fun e he => ?_, ?_, hs2⟩
      · rcases List.mem_append.mp he with z | z
        · obtain ⟨d, _, rfl⟩ := List.mem_map.mp z
          rfl
        · obtain ⟨d, _, rfl⟩ := List.mem_map.mp z
          rfl
      · show Dt.lst (toDs _) = _
        rw [toDs_eq, List.map_append, ← toDs_eq, ← toDs_eq, toDs_n, toDs_fs, List.map_append, List.map_map]
        congr 2
        apply List.map_congr_left
        intro f _
        show _ = frD 0 (b + f.1, f.2)
        unfold frD
        rw [Nat.zero_add]
  · rintro ρ ⟨L, b, w, FS, e14, x16, x17, rfl, hL, hkL, ho, hd, hs⟩
    have : L = R.length := by omega
    subst this
    rw [List.take_length] at hs
    exact ⟨_, e14, _, _, _, FS, b, w, rfl, hd, hs⟩
end T32
namespace T32
open PySem PySem.Spec PyProof.Rows L2 Qs
variable [CTab]
theorem cLp_i {b : Dt → En → Option En} {t : En → Option Bool} {e : En → Option Dt} {ρ : En} {g : Int → Dt} : ∀ {qs : List Int}, (∀ q ∈ qs, ∃ ρ1, b (.int q) ρ = some ρ1 ∧ t ρ1 = some true ∧ e ρ1 = some (g q)) → cLp b t e ρ (qs.map .int) = some (qs.map g)
  | [], _ => rfl
  | q :: qs, h => by
    obtain ⟨ρ1, h1, h2, h3⟩ := h q (by simp)
    have ih := cLp_i (b := b) (t := t) (e := e) (ρ := ρ) (g := g) (qs := qs) fun x hx => h x (by simp [hx])
    rw [List.map_cons, List.map_cons]
    unfold cLp
    rw [h1, Option.bind_some, h2, Option.bind_some, if_pos rfl, h3, Option.bind_some, ih, Option.bind_some]
abbrev frG (R : List Int) (n p : Nat) (q : Int) : Dt := .tup [.int q, .lst (((R.drop (q.toNat + n)).take p).map .int)]
theorem frames_plc {R : List Int} {n p : Nat} : ∀ {l : List (List Int × Int)} {e : Nat}, (frames (R.map .int) n p l e).map (frD 0) = (plc n p l e).map (frG R n p)
  | [], _ => rfl
  | q :: l, e => by
    show frD 0 _ :: List.map (frD 0) (frames (R.map .int) n p l _) = frG R n p _ :: List.map (frG R n p) (plc n p l _)
    rw [frames_plc]
    congr 1
    unfold frD frG
    rw [Nat.zero_add, Int.toNat_natCast, List.map_take, List.map_drop]
theorem plc_le {n p : Nat} : ∀ {l : List (List Int × Int)} {e : Nat}, ∀ q ∈ plc n p l e, 0 ≤ q ∧ q + n + p ≤ ((e + (l.map fun q => q.2.toNat + n + p).sum : Nat) : Int)
  | [], _ => fun q h => by cases h
  | r :: l, e => fun q h => by
    have h : q ∈ ((e + r.2.toNat : Nat) : Int) :: plc n p l (e + r.2.toNat + n + p) := h
    rw [List.map_cons, List.sum_cons]
    rcases List.mem_cons.mp h with z | z
    · subst z
      omega
    · have := plc_le q z
      omega
theorem end_ok {R m : List Int} {l : List (List Int × Int)} {p : Nat} {s0 s1 s3 s5 s6 s7 s8 s9 s11 s13 s15 s16 s17 s18 s19 : Option Et} {x14 : Et} {Q : Out → Prop} (hx : toD x14 = .lst ((frames (R.map .int) m.length p l 0).map (frD 0)))
    (hl : (l.map fun q => q.2.toNat + m.length + p).sum ≤ R.length) (hl2 : l.length < 1000) (hR : R.length < 400000) (hQ : ∀ ρ, Q (.rt (.n (.bl true)) (s0 :: ρ))) :
    wp c_end [s0, s1, some (.fl (m.map .int)), s3, some (.n (.int p)), s5, s6, s7, s8, s9, some (.fl ((plc m.length p l 0).map .int)), s11, some (.fl (R.map .int)), s13, some x14, s15, s16, s17, s18, s19] Q := by
  unfold c_end
  simp -implicitDefEqProofs (maxSteps := 3000000) only [wp_seq, wp_if, wp_set, wp_ret, wp_drop, wp_app, wp_for, wp_forL, wp_frz, wp_aug, wp_fld, wp_fldA, wp_setL, wp_nil, wp_brk, wp_cont, wp_retN, thenQ_nx, thenQ_rt, thenQ_ex, thenQ_bk, thenQ_ct, setQ_ok, setQ_ex, retQ_ok, retQ_ex, dropQ_ok, dropQ_ex, fldQ_ok, bodyQ_nx, bodyQ_ct, bodyQ_bk, bodyQ_rt, bodyQ_ex, endQ_rt, endQ_nx, endQ_ex, mE_eq, mMv_eq, mV, mNoex, p_V, pC, pU, pO, pN, aNil, aCons, p_B', asB_bl, bNot, bAnd, bOr, pIf, pB, p_ch, qv_add, qv_addA, qv_addL, qv_sub, qv_mul, qv_mulL, qv_div, qv_mod, qv_pow, qv_shl, qv_shr, qv_lt, qv_le, qv_gt, qv_ge, qv_neg, qv_eqI, qv_neI, qv_eqB, qv_neB, qv_ix, qv_ixT, qv_ixR, qv_len, qv_lenT, qv_lenR, qv_abs, qv_int, qv_intB, qv_max2, qv_min2, qv_rg1, qv_rg2, qv_items, qv_itemsT, qv_itemsR, qv_lst, qv_lstR, qv_isN0, qv_isNI, qv_isNL, qv_isNT, qv_noN0, qv_noNI, qv_noNL, qv_noNT, pFld, iL, iT, iN, p_E, sc_int, sc_bl, sc_non, eF, eV, esNil, esCons, eLst, eTup, eN, eAddA, eIf, fLst, fSl, oP, fList, fCat, fRep, pF, pLst, pTup, pSl, gN, gT, gsNil, gsCons, bN, lf, bYes, finE, leaf, getS, getP, getFd, setP, setFd, setF, putE, plSlot, lenE, appE, asL, setE, toD, frz, frzAll, leafE, wipeE, kids, ex_bind, ex_map, ex_if, ex_some, List.getElem?_cons_zero, List.getElem?_cons_succ, List.set_cons_zero, List.set_cons_succ, List.length_cons, List.length_nil, List.length_map, List.map_cons, List.map_nil, List.cons_append, List.nil_append, Option.bind_some, Option.map_some, Option.bind_none, Option.map_none, Option.some.injEq, exists_eq_left, exists_eq_left', and_true, true_and, Et.n.injEq, Et.o.injEq, Et.fl.injEq, Dt.int.injEq, Dt.bl.injEq, decide_eq_true_eq, decide_eq_false_iff_not, forall_const, if_true, if_false, Bool.false_eq_true, reduceIte, List.replicate_succ, List.replicate_zero, true_implies, false_implies, reduceCtorEq, Fz.ok.injEq, List.cons.injEq, atI_map, List.length_append, appE_fl, snoc_i, fLc, cutD_map, sIx_no, all_sc, map_app, rep_fl, rep_int, intsOf_m, qv_min, qv_max, qv_sum, wp_loop0, sc_lst, sc_tup, sc_ob, mMeth, mMethT, tempOk, eMk, eM, pM, obOk, lentOk, own, owns, Bool.and_true, Bool.true_and, Bool.not_true, Bool.not_false, Bool.not_eq_true, Bool.not_eq_false, Bool.not_eq_eq_eq_not, toDs, Nat.reduceAdd, Nat.reduceLT, List.all_nil, Nat.reduceEqDiff, Nat.reduceSub, Nat.reduceMul, Int.reduceLT, Int.reduceLE, Int.reduceAdd, Int.reduceSub, Int.reduceMul, Int.reduceNeg, Int.reduceToNat, Nat.lt_irrefl, Nat.zero_le, Nat.not_lt_zero, Nat.zero_lt_succ, hx, frames_plc]
  refine ⟨(plc m.length p l 0).map (frG R m.length p), cLp_i (fun q hq => ⟨_, if_pos (by simp), rfl, ?_⟩), ?_⟩
  · have hb := plc_le q hq
    simp -implicitDefEqProofs (maxSteps := 3000000) only [wp_seq, wp_if, wp_set, wp_ret, wp_drop, wp_app, wp_for, wp_forL, wp_frz, wp_aug, wp_fld, wp_fldA, wp_setL, wp_nil, wp_brk, wp_cont, wp_retN, thenQ_nx, thenQ_rt, thenQ_ex, thenQ_bk, thenQ_ct, setQ_ok, setQ_ex, retQ_ok, retQ_ex, dropQ_ok, dropQ_ex, fldQ_ok, bodyQ_nx, bodyQ_ct, bodyQ_bk, bodyQ_rt, bodyQ_ex, endQ_rt, endQ_nx, endQ_ex, mE_eq, mMv_eq, mV, mNoex, p_V, pC, pU, pO, pN, aNil, aCons, p_B', asB_bl, bNot, bAnd, bOr, pIf, pB, p_ch, qv_add, qv_addA, qv_addL, qv_sub, qv_mul, qv_mulL, qv_div, qv_mod, qv_pow, qv_shl, qv_shr, qv_lt, qv_le, qv_gt, qv_ge, qv_neg, qv_eqI, qv_neI, qv_eqB, qv_neB, qv_ix, qv_ixT, qv_ixR, qv_len, qv_lenT, qv_lenR, qv_abs, qv_int, qv_intB, qv_max2, qv_min2, qv_rg1, qv_rg2, qv_items, qv_itemsT, qv_itemsR, qv_lst, qv_lstR, qv_isN0, qv_isNI, qv_isNL, qv_isNT, qv_noN0, qv_noNI, qv_noNL, qv_noNT, pFld, iL, iT, iN, p_E, sc_int, sc_bl, sc_non, eF, eV, esNil, esCons, eLst, eTup, eN, eAddA, eIf, fLst, fSl, oP, fList, fCat, fRep, pF, pLst, pTup, pSl, gN, gT, gsNil, gsCons, bN, lf, bYes, finE, leaf, getS, getP, getFd, setP, setFd, setF, putE, plSlot, lenE, appE, asL, setE, toD, frz, frzAll, leafE, wipeE, kids, ex_bind, ex_map, ex_if, ex_some, List.getElem?_cons_zero, List.getElem?_cons_succ, List.set_cons_zero, List.set_cons_succ, List.length_cons, List.length_nil, List.length_map, List.map_cons, List.map_nil, List.cons_append, List.nil_append, Option.bind_some, Option.map_some, Option.bind_none, Option.map_none, Option.some.injEq, exists_eq_left, exists_eq_left', and_true, true_and, Et.n.injEq, Et.o.injEq, Et.fl.injEq, Dt.int.injEq, Dt.bl.injEq, decide_eq_true_eq, decide_eq_false_iff_not, forall_const, if_true, if_false, Bool.false_eq_true, reduceIte, List.replicate_succ, List.replicate_zero, true_implies, false_implies, reduceCtorEq, Fz.ok.injEq, List.cons.injEq, atI_map, List.length_append, appE_fl, snoc_i, fLc, cutD_map, sIx_no, all_sc, map_app, rep_fl, rep_int, intsOf_m, qv_min, qv_max, qv_sum, wp_loop0, sc_lst, sc_tup, sc_ob, mMeth, mMethT, tempOk, eMk, eM, pM, obOk, lentOk, own, owns, Bool.and_true, Bool.true_and, Bool.not_true, Bool.not_false, Bool.not_eq_true, Bool.not_eq_false, Bool.not_eq_eq_eq_not, toDs, Nat.reduceAdd, Nat.reduceLT, List.all_nil, Nat.reduceEqDiff, Nat.reduceSub, Nat.reduceMul, Int.reduceLT, Int.reduceLE, Int.reduceAdd, Int.reduceSub, Int.reduceMul, Int.reduceNeg, Int.reduceToNat, Nat.lt_irrefl, Nat.zero_le, Nat.not_lt_zero, Nat.zero_lt_succ, sz]
    rw [cutM (by omega) (by omega) (by omega)]
    have e1 : (q + (m.length : Int) + p - (q + m.length)).toNat = p := by omega
    have e2 : (q + (m.length : Int)).toNat = q.toNat + m.length := by omega
    rw [e1, e2]
    rfl
  · have fine : Fine 3 (.lst ((plc m.length p l 0).map (frG R m.length p))) := .lst fun x hx => by
      obtain ⟨q, _, rfl⟩ := List.mem_map.mp hx
      refine .tup fun y hy => ?_
      simp only [List.mem_cons, List.not_mem_nil, or_false] at hy
      rcases hy with rfl | rfl
      · exact .int
      · exact fine_ints _
    exact ⟨by rw [List.length_map, plc_len, sz]; omega, _, eq_self_ fine (by omega), rfl, hQ _⟩
theorem cLe_r {b : Dt → En → Option En} {t : En → Option Bool} {e : En → Option Et} {ρ : En} {n : Nat} {lo c : Int} {g : Nat → Et} (h : ∀ i, i < n → ∃ ρ1, b (.int (lo + (i : Int) * c)) ρ = some ρ1 ∧ t ρ1 = some true ∧ e ρ1 = some (g i)) : cLe b t e ρ (rgD lo c n) = some ((List.range n).map g) := by
  have gen : ∀ l : List Nat, (∀ i ∈ l, i < n) → cLe b t e ρ (l.map fun (i : Nat) => .int (lo + (i : Int) * c)) = some (l.map g) := by
    intro l
    induction l with
    | nil => intro _; rfl
    | cons i l ih =>
      intro hl
      obtain ⟨ρ1, h1, h2, h3⟩ := h i (hl i (by simp))
      have ih := ih fun j hj => hl j (by simp [hj])
      rw [List.map_cons]
      unfold cLe
      rw [h1, Option.bind_some, h2, Option.bind_some, if_pos rfl, h3, Option.bind_some, ih, Option.bind_some, List.map_cons]
  exact gen _ fun i hi => by simpa using hi
end T32
namespace T32
open PySem PySem.Spec PyProof.Rows L2 Qs
variable [CTab]
theorem rest2_ok {D m Is : List Int} {Ps : List (List Int)} {T : Int} {p : Nat} {s0 x s12 s13 s14 s15 s16 s17 s18 s19 : Option Et} {Q : Out → Prop} (h1 : 1 ≤ m.length) (h2 : m.length ≤ 10) (hT : 0 ≤ T) (hg : 2 * T < grd m) (hp : p < 15) (hn : Ps.length < 7)
    (hl : Is.length = Ps.length + 1) (h0 : ∀ i ∈ Is, 0 ≤ i ∧ i < 1000) (hP : ∀ P ∈ Ps, P.length = p) (hQ : ∀ ρ, Q (.rt (.n (.bl true)) (s0 :: ρ))) :
    wp c_rest2 [s0, some (.fl (D.map .int)), some (.fl (m.map .int)), some (.n (.int T)), some (.n (.int p)), some (.lst (Ps.map flI)), some (.fl (Is.map .int)), some (.fl ((segs m (Ps.zip Is) ++ List.replicate (Is.getD Ps.length 0).toNat 0).map .int)), some (.fl ((segs m (Ps.zip Is)).map .int)), some (.fl ((ownL m.length p (Ps.zip Is)).map ownS)), some (.fl ((plc m.length p (Ps.zip Is) 0).map .int)), x, s12, s13, s14, s15, s16, s17, s18, s19] Q := by
  have zl : (Ps.zip Is).length = Ps.length := by rw [List.length_zip]; omega
  have hz : ∀ q ∈ Ps.zip Is, q.1.length = p := fun q hq => hP _ (List.of_mem_zip hq).1
  have bnd : ∀ l : List (List Int × Int), (∀ q ∈ l, q ∈ Ps.zip Is) → (l.map fun q => q.2.toNat + m.length + p).sum ≤ 3000 * l.length := by
    intro l
    induction l with
    | nil => intro _; simp
    | cons q l ih =>
      intro h
      have ih := ih fun q hq => h q (by simp [hq])
      have := h0 _ (List.of_mem_zip (h q (by simp))).2
      rw [List.map_cons, List.sum_cons, List.length_cons]
      omega
  have b1 := bnd (Ps.zip Is) fun q hq => hq
  have sl := segs_len (m := m) hz
  have el : atI Is (-1) = some (Is.getD Ps.length 0) := by
    rw [atI_last (by omega), hl]
    simp [List.getD, hl]
  have hb : 0 ≤ Is.getD Ps.length 0 ∧ Is.getD Ps.length 0 < 1000 := h0 _ (by
    have : Ps.length < Is.length := by omega
    simp [List.getD, this])
  have ol := ownL_len (n := m.length) (p := p) (l := Ps.zip Is)
  have r1 : (List.replicate (Is.getD Ps.length 0).toNat (0 : Int)).length = (Is.getD Ps.length 0).toNat := by simp
  have hne : sNe (.lst ((segs m (Ps.zip Is) ++ List.replicate (Is.getD Ps.length 0).toNat 0).map .int)) (.lst ((segs m (Ps.zip Is) ++ List.replicate (Is.getD Ps.length 0).toNat 0).map .int)) = some (.bl false) := ne_self_ (fine_ints (k := 0) _) (by omega)
  have Ll : (segs m (Ps.zip Is) ++ List.replicate (Is.getD Ps.length 0).toNat 0).length < 400000 := by rw [List.length_append, r1, sl]; omega
  have hO : (ownL m.length p (Ps.zip Is) ++ List.replicate (Is.getD Ps.length 0).toNat false).length = (segs m (Ps.zip Is) ++ List.replicate (Is.getD Ps.length 0).toNat 0).length := by
    rw [List.length_append, List.length_append, sl, ol, r1]
    simp
  obtain ⟨R, eR, hR, hW⟩ := turned_E (D := D) (L := segs m (Ps.zip Is) ++ List.replicate (Is.getD Ps.length 0).toNat 0) (O := ownL m.length p (Ps.zip Is) ++ List.replicate (Is.getD Ps.length 0).toNat false) (n := m.length) (T := T) hO h1 hT (by omega)
  have ie := init_E (m := m) (t := T) (p := p) h1 (by omega)
  unfold c_rest2 di at *
  simp -implicitDefEqProofs (maxSteps := 3000000) only [wp_seq, wp_if, wp_set, wp_ret, wp_drop, wp_app, wp_for, wp_forL, wp_frz, wp_aug, wp_fld, wp_fldA, wp_setL, wp_nil, wp_brk, wp_cont, wp_retN, thenQ_nx, thenQ_rt, thenQ_ex, thenQ_bk, thenQ_ct, setQ_ok, setQ_ex, retQ_ok, retQ_ex, dropQ_ok, dropQ_ex, fldQ_ok, bodyQ_nx, bodyQ_ct, bodyQ_bk, bodyQ_rt, bodyQ_ex, endQ_rt, endQ_nx, endQ_ex, mE_eq, mMv_eq, mV, mNoex, p_V, pC, pU, pO, pN, aNil, aCons, p_B', asB_bl, bNot, bAnd, bOr, pIf, pB, p_ch, qv_add, qv_addA, qv_addL, qv_sub, qv_mul, qv_mulL, qv_div, qv_mod, qv_pow, qv_shl, qv_shr, qv_lt, qv_le, qv_gt, qv_ge, qv_neg, qv_eqI, qv_neI, qv_eqB, qv_neB, qv_ix, qv_ixT, qv_ixR, qv_len, qv_lenT, qv_lenR, qv_abs, qv_int, qv_intB, qv_max2, qv_min2, qv_rg1, qv_rg2, qv_items, qv_itemsT, qv_itemsR, qv_lst, qv_lstR, qv_isN0, qv_isNI, qv_isNL, qv_isNT, qv_noN0, qv_noNI, qv_noNL, qv_noNT, pFld, iL, iT, iN, p_E, sc_int, sc_bl, sc_non, eF, eV, esNil, esCons, eLst, eTup, eN, eAddA, eIf, fLst, fSl, oP, fList, fCat, fRep, pF, pLst, pTup, pSl, gN, gT, gsNil, gsCons, bN, lf, bYes, finE, leaf, getS, getP, getFd, setP, setFd, setF, putE, plSlot, asL, setE, toD, frz, frzAll, leafE, wipeE, kids, ex_bind, ex_map, ex_if, ex_some, List.getElem?_cons_zero, List.getElem?_cons_succ, List.set_cons_zero, List.set_cons_succ, List.length_cons, List.length_nil, List.length_map, List.map_cons, List.map_nil, List.cons_append, List.nil_append, Option.bind_some, Option.map_some, Option.bind_none, Option.map_none, Option.some.injEq, exists_eq_left, exists_eq_left', and_true, true_and, Et.n.injEq, Et.o.injEq, Et.fl.injEq, Dt.int.injEq, Dt.bl.injEq, decide_eq_true_eq, decide_eq_false_iff_not, forall_const, if_true, if_false, Bool.false_eq_true, reduceIte, List.replicate_succ, List.replicate_zero, true_implies, false_implies, reduceCtorEq, Fz.ok.injEq, List.cons.injEq, atI_map, List.length_append, snoc_i, fLc, cutD_map, sIx_no, all_sc, map_app, rep_fl, rep_int, intsOf_m, qv_min, qv_max, qv_sum, wp_loop0, sc_lst, sc_tup, sc_ob, mMeth, mMethT, tempOk, eMk, eM, pM, obOk, lentOk, own, owns, Bool.and_true, Bool.true_and, Bool.not_true, Bool.not_false, Bool.not_eq_true, Bool.not_eq_false, Bool.not_eq_eq_eq_not, toDs, Nat.reduceAdd, Nat.reduceLT, List.all_nil, Nat.reduceEqDiff, Nat.reduceSub, Nat.reduceMul, Int.reduceLT, Int.reduceLE, Int.reduceAdd, Int.reduceSub, Int.reduceMul, Int.reduceNeg, Int.reduceToNat, Nat.lt_irrefl, Nat.zero_le, Nat.not_lt_zero, Nat.zero_lt_succ, el, hne, own_rep1, eR, ie]
  refine ⟨by rw [sz]; omega, ⟨by omega, by omega, by rw [sz]; omega⟩, by rw [sz]; omega, by rw [sz]; omega, ⟨by omega, by omega, by rw [sz]; omega⟩, ⟨by rw [ol, List.length_replicate, sz]; omega, ownS_sc, rep_sc⟩, wp_mono (loop2_ok h1 (by omega) (by rw [hR]; omega) trivial) ?_⟩
  rintro o ⟨x13, x14, x15, x16, x17, FS, b, w, rfl, hd, hs⟩
  have ff := found_all h1 hg hW hR hO (z := (Is.getD Ps.length 0).toNat) (Ps.zip Is) 0 hz (Nat.zero_le _) rfl rfl hs
  subst ff
  exact end_ok hd (by rw [hR, List.length_append, sl]; omega) (by omega) (by omega) hQ
theorem rest1_ok {D m : List Int} {s0 : Option Et} {Q : Out → Prop} (h1 : 1 ≤ m.length) (h2 : m.length ≤ 10) (hg : 0 < grd m) (hQ : ∀ ρ, Q (.rt (.n (.bl true)) (s0 :: ρ))) :
    wp c_rest1 [s0, some (.fl (D.map .int)), some (.fl (m.map .int)), none, none, none, none, none, none, none, none, none, none, none, none, none, none, none, none, none] Q := by
  have gP : cP sem_guard [di m] = some (.int (grd m)) := cP_of (guard_s h1 (by omega))
  have tp : 0 < (grd m - 1) / 2 + 1 := by omega
  have mT := @mix_E _ D 1 ((grd m - 1) / 2 + 1) tp
  have rT := And.intro (@mixv_0 _ D 1 _ tp) (@mixv_1 _ D 1 _ tp)
  generalize mixv D 1 ((grd m - 1) / 2 + 1) = T at mT rT
  have mp := @mix_E _ D 2 15 (by decide)
  have rp := And.intro (@mixv_0 _ D 2 15 (by decide)) (@mixv_1 _ D 2 15 (by decide))
  have ep : mixv D 2 15 = ((mixv D 2 15).toNat : Nat) := by omega
  rw [ep] at mp
  generalize (mixv D 2 15).toNat = p at mp ep
  have mK := @mix_P _ D 3 6 (by decide)
  have rK := And.intro (@mixv_0 _ D 3 6 (by decide)) (@mixv_1 _ D 3 6 (by decide))
  have hPs : ∃ Ps : List (List Int), Ps.length = (mixv D 3 6).toNat ∧ (∀ P ∈ Ps, P.length = p) ∧ cLe (bN 11) bYes (eN (cE sem_law_bits) (aCons (pV 1) (aCons (pO sAddA (pC (.int 30)) (pO sMulA (pC (.int 15)) (pV 11))) (aCons (pV 4) aNil))))
      [s0, some (.fl (D.map .int)), some (.fl (m.map .int)), some (.n (.int T)), some (.n (.int p)), none, none, none, none, none, none, none, none, none, none, none, none, none, none, none] (rgD 0 1 (mixv D 3 6).toNat) = some (Ps.map flI) := by
    refine ⟨(List.range (mixv D 3 6).toNat).map fun (k : Nat) => bitsv D (30 + 15 * (0 + (k : Int) * 1)) p, by simp, fun P hP => ?_, ?_⟩
    · obtain ⟨k, _, rfl⟩ := List.mem_map.mp hP
      rw [bitsv_len, Int.toNat_natCast]
    · rw [List.map_map]
      refine cLe_r fun k hk => ⟨_, if_pos (by simp), rfl, ?_⟩
      have hc : cMul 15 (0 + (k : Int) * 1) = true := cMul_l (by decide)
      have bE := @bits_E _ D (30 + 15 * (0 + (k : Int) * 1)) p (by omega) (by omega)
      unfold di at bE
      simp -implicitDefEqProofs (maxSteps := 3000000) only [wp_seq, wp_if, wp_set, wp_ret, wp_drop, wp_app, wp_for, wp_forL, wp_frz, wp_aug, wp_fld, wp_fldA, wp_setL, wp_nil, wp_brk, wp_cont, wp_retN, thenQ_nx, thenQ_rt, thenQ_ex, thenQ_bk, thenQ_ct, setQ_ok, setQ_ex, retQ_ok, retQ_ex, dropQ_ok, dropQ_ex, fldQ_ok, bodyQ_nx, bodyQ_ct, bodyQ_bk, bodyQ_rt, bodyQ_ex, endQ_rt, endQ_nx, endQ_ex, mE_eq, mMv_eq, mV, mNoex, p_V, pC, pU, pO, pN, aNil, aCons, p_B', asB_bl, bNot, bAnd, bOr, pIf, pB, p_ch, qv_add, qv_addA, qv_addL, qv_sub, qv_mul, qv_mulL, qv_div, qv_mod, qv_pow, qv_shl, qv_shr, qv_lt, qv_le, qv_gt, qv_ge, qv_neg, qv_eqI, qv_neI, qv_eqB, qv_neB, qv_ix, qv_ixT, qv_ixR, qv_len, qv_lenT, qv_lenR, qv_abs, qv_int, qv_intB, qv_max2, qv_min2, qv_rg1, qv_rg2, qv_items, qv_itemsT, qv_itemsR, qv_lst, qv_lstR, qv_isN0, qv_isNI, qv_isNL, qv_isNT, qv_noN0, qv_noNI, qv_noNL, qv_noNT, pFld, iL, iT, iN, p_E, sc_int, sc_bl, sc_non, eF, eV, esNil, esCons, eLst, eTup, eN, eAddA, eIf, fLst, fSl, oP, fList, fCat, fRep, pF, pLst, pTup, pSl, gN, gT, gsNil, gsCons, bN, lf, bYes, finE, leaf, getS, getP, getFd, setP, setFd, setF, putE, plSlot, lenE, appE, asL, setE, toD, frz, frzAll, leafE, wipeE, kids, ex_bind, ex_map, ex_if, ex_some, List.getElem?_cons_zero, List.getElem?_cons_succ, List.set_cons_zero, List.set_cons_succ, List.length_cons, List.length_nil, List.length_map, List.map_cons, List.map_nil, List.cons_append, List.nil_append, Option.bind_some, Option.map_some, Option.bind_none, Option.map_none, Option.some.injEq, exists_eq_left, exists_eq_left', and_true, true_and, Et.n.injEq, Et.o.injEq, Et.fl.injEq, Dt.int.injEq, Dt.bl.injEq, decide_eq_true_eq, decide_eq_false_iff_not, forall_const, if_true, if_false, Bool.false_eq_true, reduceIte, List.replicate_succ, List.replicate_zero, true_implies, false_implies, reduceCtorEq, Fz.ok.injEq, List.cons.injEq, atI_map, List.length_append, appE_fl, snoc_i, fLc, cutD_map, sIx_no, all_sc, map_app, rep_fl, rep_int, intsOf_m, qv_min, qv_max, qv_sum, wp_loop0, sc_lst, sc_tup, sc_ob, mMeth, mMethT, tempOk, eMk, eM, pM, obOk, lentOk, own, owns, Bool.and_true, Bool.true_and, Bool.not_true, Bool.not_false, Bool.not_eq_true, Bool.not_eq_false, Bool.not_eq_eq_eq_not, toDs, Nat.reduceAdd, Nat.reduceLT, List.all_nil, Nat.reduceEqDiff, Nat.reduceSub, Nat.reduceMul, Int.reduceLT, Int.reduceLE, Int.reduceAdd, Int.reduceSub, Int.reduceMul, Int.reduceNeg, Int.reduceToNat, Nat.lt_irrefl, Nat.zero_le, Nat.not_lt_zero, Nat.zero_lt_succ, hc, bE]
      rfl
  obtain ⟨Ps, Pl, hP, eP⟩ := hPs
  have two : ∀ v : Int, 0 ≤ v → v < 2 → ∃ d : Int, 0 < d ∧ d ≤ 20 ∧ atI [Dt.int 2, Dt.int 20] v = some (.int d) := fun v a b => by
    have : v = 0 ∨ v = 1 := by omega
    rcases this with rfl | rfl
    · exact ⟨2, by decide, by decide, by rw [atI_nat (by decide) (by decide)]; rfl⟩
    · exact ⟨20, by decide, by decide, by rw [atI_nat (by decide) (by decide)]; rfl⟩
  have two2 : ∀ k : Nat, ∃ d : Int, 0 < d ∧ d ≤ 20 ∧ atI [Dt.int 2, Dt.int 20] (mixv D (20 + (0 + (k : Int) * 1)) 2) = some (.int d) := fun k => two _ (mixv_0 (by decide)) (mixv_1 (by decide))
  obtain ⟨dd, two3⟩ : ∃ dd : Nat → Int, ∀ k : Nat, 0 < dd k ∧ dd k ≤ 20 ∧ atI [Dt.int 2, Dt.int 20] (mixv D (20 + (0 + (k : Int) * 1)) 2) = some (.int (dd k)) := ⟨fun k => (two2 k).choose, fun k => (two2 k).choose_spec⟩
  have hIs : ∃ Is : List Int, Is.length = Ps.length + 1 ∧ (∀ i ∈ Is, 0 ≤ i ∧ i < 1000) ∧ cLp (gN 11) bYes (pN (cP sem_law_mix) (aCons (pV 1) (aCons (pO sAddA (pC (.int 4)) (pV 11)) (aCons (pO ixD (pLst (aCons (pC (.int 2)) (aCons (pC (.int 20)) aNil))) (pN (cP sem_law_mix) (aCons (pV 1) (aCons (pO sAddA (pC (.int 20)) (pV 11)) (aCons (pC (.int 2)) aNil))))) aNil))))
      [s0, some (.fl (D.map .int)), some (.fl (m.map .int)), some (.n (.int T)), some (.n (.int p)), some (.lst (Ps.map flI)), none, none, none, none, none, none, none, none, none, none, none, none, none, none] (rgD 0 1 (Ps.length + 1)) = some (Is.map .int) := by
    refine ⟨(List.range (Ps.length + 1)).map fun (k : Nat) => mixv D (4 + (0 + (k : Int) * 1)) (dd k), by simp, fun i hi => ?_, ?_⟩
    · obtain ⟨k, _, rfl⟩ := List.mem_map.mp hi
      obtain ⟨d0, d1, _⟩ := two3 k
      have a := @mixv_0 _ D (4 + (0 + (k : Int) * 1)) _ d0
      have b := @mixv_1 _ D (4 + (0 + (k : Int) * 1)) _ d0
      omega
    · refine cLp_r fun k hk => ⟨_, if_pos (by simp), rfl, ?_⟩
      obtain ⟨d0, d1, de⟩ := two3 k
      have m2 := @mix_P _ D (20 + (0 + (k : Int) * 1)) 2 (by decide)
      have md := @mix_P _ D (4 + (0 + (k : Int) * 1)) _ d0
      unfold di at m2 md
      have l2 : (2 : Nat) ≤ sizeLine := by decide
      simp -implicitDefEqProofs (maxSteps := 3000000) only [wp_seq, wp_if, wp_set, wp_ret, wp_drop, wp_app, wp_for, wp_forL, wp_frz, wp_aug, wp_fld, wp_fldA, wp_setL, wp_nil, wp_brk, wp_cont, wp_retN, thenQ_nx, thenQ_rt, thenQ_ex, thenQ_bk, thenQ_ct, setQ_ok, setQ_ex, retQ_ok, retQ_ex, dropQ_ok, dropQ_ex, fldQ_ok, bodyQ_nx, bodyQ_ct, bodyQ_bk, bodyQ_rt, bodyQ_ex, endQ_rt, endQ_nx, endQ_ex, mE_eq, mMv_eq, mV, mNoex, p_V, pC, pU, pO, pN, aNil, aCons, p_B', asB_bl, bNot, bAnd, bOr, pIf, pB, p_ch, qv_add, qv_addA, qv_addL, qv_sub, qv_mul, qv_mulL, qv_div, qv_mod, qv_pow, qv_shl, qv_shr, qv_lt, qv_le, qv_gt, qv_ge, qv_neg, qv_eqI, qv_neI, qv_eqB, qv_neB, qv_ix, qv_ixT, qv_ixR, qv_len, qv_lenT, qv_lenR, qv_abs, qv_int, qv_intB, qv_max2, qv_min2, qv_rg1, qv_rg2, qv_items, qv_itemsT, qv_itemsR, qv_lst, qv_lstR, qv_isN0, qv_isNI, qv_isNL, qv_isNT, qv_noN0, qv_noNI, qv_noNL, qv_noNT, pFld, iL, iT, iN, p_E, sc_int, sc_bl, sc_non, eF, eV, esNil, esCons, eLst, eTup, eN, eAddA, eIf, fLst, fSl, oP, fList, fCat, fRep, pF, pLst, pTup, pSl, gN, gT, gsNil, gsCons, bN, lf, bYes, finE, leaf, getS, getP, getFd, setP, setFd, setF, putE, plSlot, lenE, appE, asL, setE, toD, frz, frzAll, leafE, wipeE, kids, ex_bind, ex_map, ex_if, ex_some, List.getElem?_cons_zero, List.getElem?_cons_succ, List.set_cons_zero, List.set_cons_succ, List.length_cons, List.length_nil, List.length_map, List.map_cons, List.map_nil, List.cons_append, List.nil_append, Option.bind_some, Option.map_some, Option.bind_none, Option.map_none, Option.some.injEq, exists_eq_left, exists_eq_left', and_true, true_and, Et.n.injEq, Et.o.injEq, Et.fl.injEq, Dt.int.injEq, Dt.bl.injEq, decide_eq_true_eq, decide_eq_false_iff_not, forall_const, if_true, if_false, Bool.false_eq_true, reduceIte, List.replicate_succ, List.replicate_zero, true_implies, false_implies, reduceCtorEq, Fz.ok.injEq, List.cons.injEq, atI_map, List.length_append, appE_fl, snoc_i, fLc, cutD_map, sIx_no, all_sc, map_app, rep_fl, rep_int, intsOf_m, qv_min, qv_max, qv_sum, wp_loop0, sc_lst, sc_tup, sc_ob, mMeth, mMethT, tempOk, eMk, eM, pM, obOk, lentOk, own, owns, Bool.and_true, Bool.true_and, Bool.not_true, Bool.not_false, Bool.not_eq_true, Bool.not_eq_false, Bool.not_eq_eq_eq_not, toDs, Nat.reduceAdd, Nat.reduceLT, List.all_nil, Nat.reduceEqDiff, Nat.reduceSub, Nat.reduceMul, Int.reduceLT, Int.reduceLE, Int.reduceAdd, Int.reduceSub, Int.reduceMul, Int.reduceNeg, Int.reduceToNat, Nat.lt_irrefl, Nat.zero_le, Nat.not_lt_zero, Nat.zero_lt_succ, m2, de, l2]
      exact md
  obtain ⟨Is, Il, hI, eI⟩ := hIs
  have zl : (Ps.zip Is).length = Ps.length := by rw [List.length_zip]; omega
  have bnd : ∀ l : List (List Int × Int), (∀ q ∈ l, q ∈ Ps.zip Is) → (l.map fun q => q.2.toNat + m.length + p).sum ≤ 3000 * l.length := by
    intro l
    induction l with
    | nil => intro _; simp
    | cons q l ih =>
      intro h
      have ih := ih fun q hq => h q (by simp [hq])
      have := hI _ (List.of_mem_zip (h q (by simp))).2
      rw [List.map_cons, List.sum_cons, List.length_cons]
      omega
  have b1 := bnd (Ps.zip Is) fun q hq => hq
  have sl := segs_len (m := m) (l := Ps.zip Is) fun q hq => hP _ (List.of_mem_zip hq).1
  have lE := lineG_E (m := m) (Ps := Ps) (Is := Is) h1 (by omega) Il (fun i hi => ⟨(hI i hi).1, by have := hI i hi; omega⟩) (by rw [sl]; omega) (by omega) (fun P h => by rw [hP P h]; omega)
  unfold c_rest1
  unfold dl at lE
  unfold di at gP mT mp mK lE
  have ei : ((Ps.length : Int) + 1).toNat = Ps.length + 1 := by omega
  have ok1 : ∀ s3 s4 : Option Et, okW [s0, some (.fl (D.map .int)), some (.fl (m.map .int)), s3, s4, none, none, none, none, none, none, none, none, none, none, none, none, none, none, none] [11] = true := fun _ _ => rfl
  simp -implicitDefEqProofs (maxSteps := 3000000) only [wp_seq, wp_if, wp_set, wp_ret, wp_drop, wp_app, wp_for, wp_forL, wp_frz, wp_aug, wp_fld, wp_fldA, wp_setL, wp_nil, wp_brk, wp_cont, wp_retN, thenQ_nx, thenQ_rt, thenQ_ex, thenQ_bk, thenQ_ct, setQ_ok, setQ_ex, retQ_ok, retQ_ex, dropQ_ok, dropQ_ex, fldQ_ok, bodyQ_nx, bodyQ_ct, bodyQ_bk, bodyQ_rt, bodyQ_ex, endQ_rt, endQ_nx, endQ_ex, mE_eq, mMv_eq, mV, mNoex, p_V, pC, pU, pO, pN, aNil, aCons, p_B', asB_bl, bNot, bAnd, bOr, pIf, pB, p_ch, qv_add, qv_addA, qv_addL, qv_sub, qv_mul, qv_mulL, qv_div, qv_mod, qv_pow, qv_shl, qv_shr, qv_lt, qv_le, qv_gt, qv_ge, qv_neg, qv_eqI, qv_neI, qv_eqB, qv_neB, qv_ix, qv_ixT, qv_ixR, qv_len, qv_lenT, qv_lenR, qv_abs, qv_int, qv_intB, qv_max2, qv_min2, qv_rg1, qv_rg2, qv_items, qv_itemsT, qv_itemsR, qv_lst, qv_lstR, qv_isN0, qv_isNI, qv_isNL, qv_isNT, qv_noN0, qv_noNI, qv_noNL, qv_noNT, pFld, iL, iT, iN, p_E, sc_int, sc_bl, sc_non, eF, eV, esNil, esCons, eLst, eTup, eN, eAddA, eIf, fLst, fSl, oP, fList, fCat, fRep, pF, pLst, pTup, pSl, gN, gT, gsNil, gsCons, bN, lf, bYes, finE, leaf, getS, getP, getFd, setP, setFd, setF, putE, plSlot, asL, setE, toD, frz, frzAll, leafE, wipeE, kids, ex_bind, ex_map, ex_if, ex_some, List.getElem?_cons_zero, List.getElem?_cons_succ, List.set_cons_zero, List.set_cons_succ, List.length_cons, List.length_nil, List.length_map, List.map_cons, List.map_nil, List.cons_append, List.nil_append, Option.bind_some, Option.map_some, Option.bind_none, Option.map_none, Option.some.injEq, exists_eq_left, exists_eq_left', and_true, true_and, Et.n.injEq, Et.o.injEq, Et.fl.injEq, Dt.int.injEq, Dt.bl.injEq, decide_eq_true_eq, decide_eq_false_iff_not, forall_const, if_true, if_false, Bool.false_eq_true, reduceIte, List.replicate_succ, List.replicate_zero, true_implies, false_implies, reduceCtorEq, Fz.ok.injEq, List.cons.injEq, atI_map, List.length_append, snoc_i, fLc, cutD_map, sIx_no, all_sc, map_app, rep_fl, rep_int, intsOf_m, qv_min, qv_max, qv_sum, wp_loop0, sc_lst, sc_tup, sc_ob, mMeth, mMethT, tempOk, eMk, eM, pM, obOk, lentOk, own, owns, Bool.and_true, Bool.true_and, Bool.not_true, Bool.not_false, Bool.not_eq_true, Bool.not_eq_false, Bool.not_eq_eq_eq_not, toDs, Nat.reduceAdd, Nat.reduceLT, List.all_nil, Nat.reduceEqDiff, Nat.reduceSub, Nat.reduceMul, Int.reduceLT, Int.reduceLE, Int.reduceAdd, Int.reduceSub, Int.reduceMul, Int.reduceNeg, Int.reduceToNat, Nat.lt_irrefl, Nat.zero_le, Nat.not_lt_zero, Nat.zero_lt_succ, gP, mT, mp, mK, eP, ok1, eLcR, eI, toDs_ps, ei, lE]
  refine ⟨by unfold lim62; omega, rfl, by rw [sz]; omega, by unfold lim62; omega, by rw [sz]; omega, wp_mono (loop1_ok Il hI hP (by omega) (by omega) (by omega)) ?_⟩
  rintro o ⟨x, rfl⟩
  exact rest2_ok h1 h2 rT.1 (by omega) (by omega) (by omega) Il hI hP hQ
theorem law_true (ns : List Int) (hn : ns.length ≤ 63) : ∃ r es', sem_law [.o (.rl (ns.map Dt.int))] = some (.ok r es') ∧ toD r = .bl true := by
  obtain ⟨z, e, es', rfl⟩ := fn_wp (pb := [false]) (n := 20) (f := c_law) (es := [.o (.rl (ns.map .int))]) (R := fun z => ∃ es', z = .ok (.n (.bl true)) es') rfl (by
    obtain ⟨D, eD⟩ := draws_ok ns hn
    have eD : cE sem_law_draws [.rl (ns.map .int)] = some (.fl (D.map .int)) := cE_of (es := [.o (.rl (ns.map .int))]) eD
    have m0 := @mix_P _ D 0 10 (by decide)
    have r0 := And.intro (@mixv_0 _ D 0 10 (by decide)) (@mixv_1 _ D 0 10 (by decide))
    have bE := @bits_E _ D 10 (1 + mixv D 0 10) (by omega) (by omega)
    have bl := @bitsv_len _ D 10 (1 + mixv D 0 10)
    unfold di at m0 bE
    rw [c_law_eq]
    simp -implicitDefEqProofs (maxSteps := 3000000) only [wp_seq, wp_if, wp_set, wp_ret, wp_drop, wp_app, wp_for, wp_forL, wp_frz, wp_aug, wp_fld, wp_fldA, wp_setL, wp_nil, wp_brk, wp_cont, wp_retN, thenQ_nx, thenQ_rt, thenQ_ex, thenQ_bk, thenQ_ct, setQ_ok, setQ_ex, retQ_ok, retQ_ex, dropQ_ok, dropQ_ex, fldQ_ok, bodyQ_nx, bodyQ_ct, bodyQ_bk, bodyQ_rt, bodyQ_ex, endQ_rt, endQ_nx, endQ_ex, mE_eq, mMv_eq, mV, mNoex, p_V, pC, pU, pO, pN, aNil, aCons, p_B', asB_bl, bNot, bAnd, bOr, pIf, pB, p_ch, qv_add, qv_addA, qv_addL, qv_sub, qv_mul, qv_mulL, qv_div, qv_mod, qv_pow, qv_shl, qv_shr, qv_lt, qv_le, qv_gt, qv_ge, qv_neg, qv_eqI, qv_neI, qv_eqB, qv_neB, qv_ix, qv_ixT, qv_ixR, qv_len, qv_lenT, qv_lenR, qv_abs, qv_int, qv_intB, qv_max2, qv_min2, qv_rg1, qv_rg2, qv_items, qv_itemsT, qv_itemsR, qv_lst, qv_lstR, qv_isN0, qv_isNI, qv_isNL, qv_isNT, qv_noN0, qv_noNI, qv_noNL, qv_noNT, pFld, iL, iT, iN, p_E, sc_int, sc_bl, sc_non, eF, eV, esNil, esCons, eLst, eTup, eN, eAddA, eIf, fLst, fSl, oP, fList, fCat, fRep, pF, pLst, pTup, pSl, gN, gT, gsNil, gsCons, bN, lf, bYes, finE, leaf, getS, getP, getFd, setP, setFd, setF, putE, plSlot, asL, setE, toD, frz, frzAll, leafE, wipeE, kids, ex_bind, ex_map, ex_if, ex_some, List.getElem?_cons_zero, List.getElem?_cons_succ, List.set_cons_zero, List.set_cons_succ, List.length_cons, List.length_nil, List.length_map, List.map_cons, List.map_nil, List.cons_append, List.nil_append, Option.bind_some, Option.map_some, Option.bind_none, Option.map_none, Option.some.injEq, exists_eq_left, exists_eq_left', and_true, true_and, Et.n.injEq, Et.o.injEq, Et.fl.injEq, Dt.int.injEq, Dt.bl.injEq, decide_eq_true_eq, decide_eq_false_iff_not, forall_const, if_true, if_false, Bool.false_eq_true, reduceIte, List.replicate_succ, List.replicate_zero, true_implies, false_implies, reduceCtorEq, Fz.ok.injEq, List.cons.injEq, atI_map, List.length_append, snoc_i, fLc, cutD_map, sIx_no, all_sc, map_app, rep_fl, rep_int, intsOf_m, qv_min, qv_max, qv_sum, wp_loop0, sc_lst, sc_tup, sc_ob, mMeth, mMethT, tempOk, eMk, eM, pM, obOk, lentOk, own, owns, Bool.and_true, Bool.true_and, Bool.not_true, Bool.not_false, Bool.not_eq_true, Bool.not_eq_false, Bool.not_eq_eq_eq_not, toDs, Nat.reduceAdd, Nat.reduceLT, List.all_nil, Nat.reduceEqDiff, Nat.reduceSub, Nat.reduceMul, Int.reduceLT, Int.reduceLE, Int.reduceAdd, Int.reduceSub, Int.reduceMul, Int.reduceNeg, Int.reduceToNat, Nat.lt_irrefl, Nat.zero_le, Nat.not_lt_zero, Nat.zero_lt_succ, eD, m0, bE]
    refine wp_mono (pick_ok (by omega) (by omega)) ?_
    rintro o ⟨m, rfl, m1, m2, m3⟩
    exact rest1_ok m1 m2 m3 fun ρ => ⟨_, rfl, _, rfl⟩)
  exact ⟨_, es', e, rfl⟩
theorem fin : PySem.Challenge.rw_farhaul_k32_whole_frames_are_found.Holds := holds_of fun ns hn => law_true ns hn
end T32
theorem PySem.Challenge.cw_farhaul_k32_whole_frames_are_found_holds : PySem.Challenge.rw_farhaul_k32_whole_frames_are_found.Holds := by
  letI : Qs.CTab := ⟨fun _ => (0 : Nat), fun _ => []⟩
  exact T32.fin
