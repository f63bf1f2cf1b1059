import PyProof.Rows.All
import Wide.All
import OpenK.AllK
import Wide.FinOn
import HandS.ForMost
import HandS.ForExc
import HandS.Defaults
import HandS.Head0
import HandS.Head1
import HandS.Head2
import HandS.HeadEnd
import HandS.HeadHook1
import HandS.HeadHook2
import HandS.Codes
import HandS.Set
import HandS.SetFor
import HandS.TupSets
import HandS.SetBool
import HandS.ClsMeth
import HandS.Wide
import HandS.Deep
import HandS.Style
import HandS.SortInts
import HandS.SortRule
import HandS.IsInst
import HandS.MakeKw
import HandS.MakeKwOnly
import HandS.More
import HandS.Conv
import HandS.Zip
import HandS.TupAny
import HandS.RaiseMore
import HandS.Star
import HandS.Dict
import PySem.Challenge.RW_oddposts_k23_pieces_and_signs
set_option Elab.async false
set_option linter.all false
set_option maxRecDepth 100000
set_option maxHeartbeats 2000000
/-! Z1: data, what stands for it on the heap, states of a def's body. -/
namespace Z
open PySem PySem.Spec PyProof.Rows L2

/-- a value, whole -/
inductive D where
  | non | bl (b : Bool) | int (i : Int) | str (x : Str)
  | lst (ds : List D) | tup (ds : List D)
  | dic (ks : List Key) (ds : List D)
  | obj (C : Str) (fs : List Str) (ds : List D)
  | fls (ds : List D)
/-- a value of one's own: its nodes may be changed -/
inductive O where
  | sh (d : D)
  | lst (os : List O) | tup (os : List O)
  | dic (ks : List Key) (os : List O)
  | obj (C : Str) (fs : List Str) (os : List O)
/-- a slot -/
inductive Sl where
  | no | pl (d : D) | ow (o : O)

mutual
def fr : O → D
  | .sh d => d
  | .lst os => .lst (frL os)
  | .tup os => .tup (frL os)
  | .dic ks os => .dic ks (frL os)
  | .obj C fs os => .obj C fs (frL os)
def frL : List O → List D
  | [] => []
  | o :: os => fr o :: frL os
end
theorem frL_map : ∀ os : List O, frL os = os.map fr
  | [] => rfl
  | o :: os => by rw [frL, frL_map os]; rfl

/-- where the classes stand -/
structure Ev where
  K : PySem.W.Frag
  ca : Str → Addr

def dk : HO → Bool
  | .dK _ => true
  | _ => false
/-- what G knows stands in H (a dict may be locked) -/
def Ex (G H : Hp) : Prop := ∀ a o, G a = some o → H a = some o ∨ (dk o = true ∧ ∃ ob, H a = some (.frz ob o))
theorem Ex.refl (G : Hp) : Ex G G := fun _ _ h => .inl h
theorem Ex.trans {G H H' : Hp} (a : Ex G H) (b : Ex H H') : Ex G H' := fun x o h => by
  rcases a x o h with h1 | ⟨k, ob, h1⟩
  · exact b x o h1
  · rcases b x _ h1 with h2 | ⟨k2, _⟩
    · exact .inr ⟨k, ob, h2⟩
    · cases k2
theorem Ex.of {G H : Hp} (h : ∀ a o, G a = some o → H a = some o) : Ex G H := fun a o e => .inl (h a o e)
theorem Ex.some {G H : Hp} (e : Ex G H) {a : Addr} {o : HO} (h : G a = .some o) : H a ≠ none := by
  rcases e a o h with h1 | ⟨_, _, h1⟩ <;> rw [h1] <;> exact fun z => nomatch z
theorem Ex.new {H : Hp} {p : Addr} {o : HO} (h : H p = none) : Ex H (upd H p o) := fun a u e => .inl (by
  rw [upd_ne (ne_of_none e h)]
  exact e)
theorem Ex.mut {G H : Hp} {p : Addr} {o : HO} (e : Ex G H) (h : G p = none) : Ex G (upd H p o) := fun a u ha => by
  rw [upd_ne (ne_of_none ha h)]
  exact e a u ha
theorem Ex.hard {G H : Hp} (e : Ex G H) {a : Addr} {o : HO} (h : G a = .some o) (n : dk o = false) : H a = .some o := by
  rcases e a o h with h1 | ⟨k, _⟩
  · exact h1
  · rw [n] at k; cases k
theorem Ex.rd {G H : Hp} (e : Ex G H) {a : Addr} {o : HO} (h : Rd G a o) : Rd H a o := by
  rcases h with h | ⟨ob, h⟩
  · rcases e a o h with h1 | ⟨_, ob, h1⟩
    · exact .inl h1
    · exact .inr ⟨ob, h1⟩
  · exact .inr ⟨ob, e.hard h rfl⟩
theorem Ex.seql {K : PySem.W.Frag} {G H : Hp} (e : Ex G H) {a : Addr} {xs : List V} (h : SqL K G a xs) : SqL K H a xs := by
  rcases h with h | h
  · exact .inl (e.rd h)
  · exact .inr h
theorem Ex.seqt {K : PySem.W.Frag} {G H : Hp} (e : Ex G H) {a : Addr} {xs : List V} (h : SqT K G a xs) : SqT K H a xs := by
  rcases h with h | h
  · exact .inl (e.rd h)
  · exact .inr h

def noInt : List D → Bool
  | [] => true
  | .str _ :: ds => noInt ds
  | _ :: _ => false
/-- a tuple, or one of the text's own: of strings -/
def TupAt (K : PySem.W.Frag) (H : Hp) (ds : List D) (a : Addr) (xs : List V) : Prop := H a = some (.tup xs) ∨ (noInt ds = true ∧ SqT K H a xs)
theorem TupAt.sq {K : PySem.W.Frag} {H : Hp} {ds : List D} {a : Addr} {xs : List V} (h : TupAt K H ds a xs) : SqT K H a xs := by
  rcases h with h | h
  · exact SqT.of h
  · exact h.2
theorem Ex.tup {K : PySem.W.Frag} {G H : Hp} (e : Ex G H) {ds : List D} {a : Addr} {xs : List V} (h : TupAt K G ds a xs) : TupAt K H ds a xs := by
  rcases h with h | h
  · exact .inl (e.hard h rfl)
  · exact .inr ⟨h.1, e.seqt h.2⟩
mutual
/-- v stands for d in H -/
def Rs (E : Ev) (H : Hp) : D → V → Prop
  | .non, v => v = .non
  | .bl b, v => v = .bl b
  | .int i, v => v = .int i
  | .str x, v => v = .str x
  | .lst ds, v => ∃ a xs, v = .ref a ∧ H a = some (.lst xs) ∧ RsL E H ds xs
  | .tup ds, v => ∃ a xs, v = .ref a ∧ TupAt E.K H ds a xs ∧ RsL E H ds xs
  | .dic ks ds, v => ∃ a kvs, v = .ref a ∧ Rd H a (.dK kvs) ∧ kvs.map (·.1) = ks ∧ RsL E H ds (kvs.map (·.2))
  | .obj C fs ds, v => ∃ a dx fv, v = .ref a ∧ H a = some (.ins (E.ca C) dx fv) ∧ fv.map (·.1) = fs ∧ RsL E H ds (fv.map (·.2))
  | .fls ds, v => ∃ a xs, v = .ref a ∧ SqL E.K H a xs ∧ RsL E H ds xs
def RsL (E : Ev) (H : Hp) : List D → List V → Prop
  | [], vs => vs = []
  | d :: ds, vs => ∃ v r, vs = v :: r ∧ Rs E H d v ∧ RsL E H ds r
end
mutual
/-- v stands for o in H: its own nodes are at A, all else in G -/
def Ro (E : Ev) (G H : Hp) : O → V → List Addr → Prop
  | .sh d, v, A => A = [] ∧ Rs E G d v
  | .lst os, v, A => ∃ a xs B, v = .ref a ∧ A = a :: B ∧ H a = some (.lst xs) ∧ RoL E G H os xs B
  | .tup os, v, A => ∃ a xs B, v = .ref a ∧ A = a :: B ∧ H a = some (.tup xs) ∧ RoL E G H os xs B
  | .dic ks os, v, A => ∃ a kvs B, v = .ref a ∧ A = a :: B ∧ H a = some (.dK kvs) ∧ kvs.map (·.1) = ks ∧ RoL E G H os (kvs.map (·.2)) B
  | .obj C fs os, v, A => ∃ a dx fv B, v = .ref a ∧ A = a :: B ∧ H a = some (.ins (E.ca C) dx fv) ∧ fv.map (·.1) = fs ∧ RoL E G H os (fv.map (·.2)) B
def RoL (E : Ev) (G H : Hp) : List O → List V → List Addr → Prop
  | [], vs, A => vs = [] ∧ A = []
  | o :: os, vs, A => ∃ v r A1 A2, vs = v :: r ∧ A = A1 ++ A2 ∧ Ro E G H o v A1 ∧ RoL E G H os r A2
end

section
variable {E : Ev} {G G' H H' : Hp}
mutual
theorem Rs.mono (e : Ex H H') : ∀ {d : D} {v : V}, Rs E H d v → Rs E H' d v
  | .non, _, h => h
  | .bl _, _, h => h
  | .int _, _, h => h
  | .str _, _, h => h
  | .lst ds, v, h => by
    unfold Rs at h ⊢
    obtain ⟨a, xs, h1, h2, h3⟩ := h
    exact ⟨a, xs, h1, e.hard h2 rfl, RsL.mono e h3⟩
  | .tup ds, v, h => by
    unfold Rs at h ⊢
    obtain ⟨a, xs, h1, h2, h3⟩ := h
    exact ⟨a, xs, h1, e.tup h2, RsL.mono e h3⟩
  | .dic ks ds, v, h => by
    unfold Rs at h ⊢
    obtain ⟨a, xs, h1, h2, h3, h4⟩ := h
    exact ⟨a, xs, h1, e.rd h2, h3, RsL.mono e h4⟩
  | .obj C fs ds, v, h => by
    unfold Rs at h ⊢
    obtain ⟨a, dx, fv, h1, h2, h3, h4⟩ := h
    exact ⟨a, dx, fv, h1, e.hard h2 rfl, h3, RsL.mono e h4⟩
  | .fls ds, v, h => by
    unfold Rs at h ⊢
    obtain ⟨a, xs, h1, h2, h3⟩ := h
    exact ⟨a, xs, h1, e.seql h2, RsL.mono e h3⟩
theorem RsL.mono (e : Ex H H') : ∀ {ds : List D} {vs : List V}, RsL E H ds vs → RsL E H' ds vs
  | [], _, h => h
  | d :: ds, vs, h => by
    unfold RsL at h ⊢
    obtain ⟨v, r, h1, h2, h3⟩ := h
    exact ⟨v, r, h1, Rs.mono e h2, RsL.mono e h3⟩
end
mutual
/-- G grows; the own nodes stay -/
theorem Ro.keep (e : Ex G G') : ∀ {o : O} {v : V} {A : List Addr}, Ro E G H o v A → (∀ a ∈ A, ∀ u, H a = some u → H' a = some u) → Ro E G' H' o v A
  | .sh d, v, A, h, k => by
    unfold Ro at h ⊢
    exact ⟨h.1, Rs.mono e h.2⟩
  | .lst os, v, A, h, k => by
    unfold Ro at h ⊢
    obtain ⟨a, xs, B, h1, rfl, h3, h4⟩ := h
    exact ⟨a, xs, B, h1, rfl, k a List.mem_cons_self _ h3, RoL.keep e h4 fun b hb => k b (List.mem_cons_of_mem _ hb)⟩
  | .tup os, v, A, h, k => by
    unfold Ro at h ⊢
    obtain ⟨a, xs, B, h1, rfl, h3, h4⟩ := h
    exact ⟨a, xs, B, h1, rfl, k a List.mem_cons_self _ h3, RoL.keep e h4 fun b hb => k b (List.mem_cons_of_mem _ hb)⟩
  | .dic ks os, v, A, h, k => by
    unfold Ro at h ⊢
    obtain ⟨a, kvs, B, h1, rfl, h3, h5, h4⟩ := h
    exact ⟨a, kvs, B, h1, rfl, k a List.mem_cons_self _ h3, h5, RoL.keep e h4 fun b hb => k b (List.mem_cons_of_mem _ hb)⟩
  | .obj C fs os, v, A, h, k => by
    unfold Ro at h ⊢
    obtain ⟨a, dx, fv, B, h1, rfl, h3, h5, h4⟩ := h
    exact ⟨a, dx, fv, B, h1, rfl, k a List.mem_cons_self _ h3, h5, RoL.keep e h4 fun b hb => k b (List.mem_cons_of_mem _ hb)⟩
theorem RoL.keep (e : Ex G G') : ∀ {os : List O} {vs : List V} {A : List Addr}, RoL E G H os vs A → (∀ a ∈ A, ∀ u, H a = some u → H' a = some u) → RoL E G' H' os vs A
  | [], vs, A, h, k => h
  | o :: os, vs, A, h, k => by
    unfold RoL at h ⊢
    obtain ⟨v, r, A1, A2, h1, rfl, h3, h4⟩ := h
    exact ⟨v, r, A1, A2, h1, rfl, Ro.keep e h3 fun a ha => k a (List.mem_append_left _ ha), RoL.keep e h4 fun a ha => k a (List.mem_append_right _ ha)⟩
end
mutual
/-- an own thing seen: in any heap that has G and the own nodes -/
theorem Ro.see (e : Ex G H') : ∀ {o : O} {v : V} {A : List Addr}, Ro E G H o v A → (∀ a ∈ A, ∀ u, H a = some u → H' a = some u) → Rs E H' (fr o) v
  | .sh d, v, A, h, k => by
    unfold Ro at h
    exact Rs.mono e h.2
  | .lst os, v, A, h, k => by
    unfold Ro at h
    obtain ⟨a, xs, B, h1, rfl, h3, h4⟩ := h
    unfold fr Rs
    exact ⟨a, xs, h1, k a List.mem_cons_self _ h3, RoL.see e h4 (fun b hb => k b (List.mem_cons_of_mem _ hb))⟩
  | .tup os, v, A, h, k => by
    unfold Ro at h
    obtain ⟨a, xs, B, h1, rfl, h3, h4⟩ := h
    unfold fr Rs
    exact ⟨a, xs, h1, .inl (k a List.mem_cons_self _ h3), RoL.see e h4 (fun b hb => k b (List.mem_cons_of_mem _ hb))⟩
  | .dic ks os, v, A, h, k => by
    unfold Ro at h
    obtain ⟨a, kvs, B, h1, rfl, h3, h5, h4⟩ := h
    unfold fr Rs
    exact ⟨a, kvs, h1, .inl (k a List.mem_cons_self _ h3), h5, RoL.see e h4 (fun b hb => k b (List.mem_cons_of_mem _ hb))⟩
  | .obj C fs os, v, A, h, k => by
    unfold Ro at h
    obtain ⟨a, dx, fv, B, h1, rfl, h3, h5, h4⟩ := h
    unfold fr Rs
    exact ⟨a, dx, fv, h1, k a List.mem_cons_self _ h3, h5, RoL.see e h4 (fun b hb => k b (List.mem_cons_of_mem _ hb))⟩
theorem RoL.see (e : Ex G H') : ∀ {os : List O} {vs : List V} {A : List Addr}, RoL E G H os vs A → (∀ a ∈ A, ∀ u, H a = some u → H' a = some u) → RsL E H' (frL os) vs
  | [], vs, A, h, k => by
    unfold RoL at h
    unfold frL RsL
    exact h.1
  | o :: os, vs, A, h, k => by
    unfold RoL at h
    obtain ⟨v, r, A1, A2, h1, rfl, h3, h4⟩ := h
    unfold frL RsL
    exact ⟨v, r, h1, Ro.see e h3 (fun a ha => k a (List.mem_append_left _ ha)), RoL.see e h4 (fun a ha => k a (List.mem_append_right _ ha))⟩
end
mutual
/-- the own nodes are there -/
theorem Ro.there : ∀ {o : O} {v : V} {A : List Addr}, Ro E G H o v A → ∀ a ∈ A, H a ≠ none
  | .sh d, v, A, h, a, ha => by
    unfold Ro at h
    rw [h.1] at ha
    cases ha
  | .lst os, v, A, h, b, hb => by
    unfold Ro at h
    obtain ⟨a, xs, B, h1, rfl, h3, h4⟩ := h
    rcases List.mem_cons.mp hb with rfl | hb
    · rw [h3]; exact fun z => nomatch z
    · exact RoL.there h4 b hb
  | .tup os, v, A, h, b, hb => by
    unfold Ro at h
    obtain ⟨a, xs, B, h1, rfl, h3, h4⟩ := h
    rcases List.mem_cons.mp hb with rfl | hb
    · rw [h3]; exact fun z => nomatch z
    · exact RoL.there h4 b hb
  | .dic ks os, v, A, h, b, hb => by
    unfold Ro at h
    obtain ⟨a, kvs, B, h1, rfl, h3, h5, h4⟩ := h
    rcases List.mem_cons.mp hb with rfl | hb
    · rw [h3]; exact fun z => nomatch z
    · exact RoL.there h4 b hb
  | .obj C fs os, v, A, h, b, hb => by
    unfold Ro at h
    obtain ⟨a, dx, fv, B, h1, rfl, h3, h5, h4⟩ := h
    rcases List.mem_cons.mp hb with rfl | hb
    · rw [h3]; exact fun z => nomatch z
    · exact RoL.there h4 b hb
theorem RoL.there : ∀ {os : List O} {vs : List V} {A : List Addr}, RoL E G H os vs A → ∀ a ∈ A, H a ≠ none
  | [], vs, A, h, a, ha => by
    unfold RoL at h
    rw [h.2] at ha
    cases ha
  | o :: os, vs, A, h, a, ha => by
    unfold RoL at h
    obtain ⟨v, r, A1, A2, h1, rfl, h3, h4⟩ := h
    rcases List.mem_append.mp ha with ha | ha
    · exact Ro.there h3 a ha
    · exact RoL.there h4 a ha
end
/-- shared data in a list of own things -/
theorem RoL.sh : ∀ {ds : List D} {vs : List V}, RsL E G ds vs → RoL E G H (ds.map O.sh) vs []
  | [], vs, h => by
    unfold RsL at h
    show RoL E G H [] vs []
    unfold RoL
    exact ⟨h, rfl⟩
  | d :: ds, vs, h => by
    unfold RsL at h
    obtain ⟨v, r, h1, h2, h3⟩ := h
    show RoL E G H (O.sh d :: ds.map O.sh) vs []
    unfold RoL
    refine ⟨v, r, [], [], h1, rfl, ?_, RoL.sh h3⟩
    unfold Ro
    exact ⟨rfl, h2⟩
theorem RsL.length : ∀ {ds : List D} {vs : List V}, RsL E H ds vs → ds.length = vs.length
  | [], vs, h => by
    unfold RsL at h
    subst h
    rfl
  | d :: ds, vs, h => by
    unfold RsL at h
    obtain ⟨v, r, rfl, h2, h3⟩ := h
    rw [List.length_cons, List.length_cons, RsL.length h3]
theorem RsL.get : ∀ {ds : List D} {vs : List V} {i : Nat} {d : D}, RsL E H ds vs → ds[i]? = some d → ∃ v, vs[i]? = some v ∧ Rs E H d v
  | [], _, _, _, _, e => by cases e
  | d :: ds, vs, 0, d', h, e => by
    unfold RsL at h
    obtain ⟨v, r, rfl, h2, h3⟩ := h
    cases e
    exact ⟨v, rfl, h2⟩
  | d :: ds, vs, i + 1, d', h, e => by
    unfold RsL at h
    obtain ⟨v, r, rfl, h2, h3⟩ := h
    exact RsL.get (i := i) h3 e
theorem RsL.cons {d : D} {ds : List D} {v : V} {vs : List V} (h : Rs E H d v) (r : RsL E H ds vs) : RsL E H (d :: ds) (v :: vs) := by
  unfold RsL
  exact ⟨v, vs, rfl, h, r⟩
theorem RsL.nil : RsL E H [] [] := by
  unfold RsL
  rfl
theorem RsL.append : ∀ {ds es : List D} {vs ws : List V}, RsL E H ds vs → RsL E H es ws → RsL E H (ds ++ es) (vs ++ ws)
  | [], es, vs, ws, h, k => by
    unfold RsL at h
    subst h
    exact k
  | d :: ds, es, vs, ws, h, k => by
    unfold RsL at h
    obtain ⟨v, r, rfl, h2, h3⟩ := h
    exact .cons h2 (RsL.append h3 k)
theorem RsL.ints : ∀ {ns : List Int} {vs : List V}, RsL E H (ns.map D.int) vs → vs = ns.map V.int
  | [], vs, h => by
    unfold RsL at h
    exact h
  | n :: ns, vs, h => by
    have h1 : RsL E H (D.int n :: ns.map D.int) vs := h
    unfold RsL at h1
    obtain ⟨v, r, rfl, h2, h3⟩ := h1
    unfold Rs at h2
    rw [h2, RsL.ints h3]
    rfl
theorem RsL.of_ints : ∀ {ns : List Int}, RsL E H (ns.map D.int) (ns.map V.int)
  | [] => .nil
  | n :: ns => .cons (by unfold Rs; rfl) RsL.of_ints
theorem RsL.set : ∀ {ds : List D} {vs : List V} (i : Nat) {d : D} {v : V}, RsL E H ds vs → Rs E H d v → RsL E H (ds.set i d) (vs.set i v)
  | [], vs, i, d, v, h, _ => by
    unfold RsL at h
    subst h
    exact .nil
  | x :: ds, vs, 0, d, v, h, k => by
    unfold RsL at h
    obtain ⟨y, r, rfl, h2, h3⟩ := h
    exact .cons k h3
  | x :: ds, vs, i + 1, d, v, h, k => by
    unfold RsL at h
    obtain ⟨y, r, rfl, h2, h3⟩ := h
    exact .cons h2 (RsL.set i h3 k)
theorem RoL.length : ∀ {os : List O} {vs : List V} {A : List Addr}, RoL E G H os vs A → os.length = vs.length
  | [], vs, A, h => by
    unfold RoL at h
    obtain ⟨rfl, rfl⟩ := h
    rfl
  | o :: os, vs, A, h => by
    unfold RoL at h
    obtain ⟨v, r, A1, A2, rfl, rfl, h3, h4⟩ := h
    rw [List.length_cons, List.length_cons, RoL.length h4]
theorem RoL.append : ∀ {os ps : List O} {vs ws : List V} {A B : List Addr}, RoL E G H os vs A → RoL E G H ps ws B → RoL E G H (os ++ ps) (vs ++ ws) (A ++ B)
  | [], ps, vs, ws, A, B, h, k => by
    unfold RoL at h
    obtain ⟨rfl, rfl⟩ := h
    exact k
  | o :: os, ps, vs, ws, A, B, h, k => by
    unfold RoL at h
    obtain ⟨v, r, A1, A2, rfl, rfl, h3, h4⟩ := h
    show RoL E G H (o :: (os ++ ps)) (v :: (r ++ ws)) _
    unfold RoL
    exact ⟨v, r ++ ws, A1, A2 ++ B, rfl, List.append_assoc .., h3, RoL.append h4 k⟩
theorem RoL.one {o : O} {v : V} {A : List Addr} (h : Ro E G H o v A) : RoL E G H [o] [v] A := by
  unfold RoL
  refine ⟨v, [], A, [], rfl, (List.append_nil A).symm, h, ?_⟩
  unfold RoL
  exact ⟨rfl, rfl⟩
end
end Z

/-! Z2: a body's state, what an expression, a statement of the mirror means on the heap. -/
namespace Z
open PySem PySem.Spec PyProof.Rows L2

/-- a def's entry: G0 what it may share, H0 the heap, B the nodes lent to be changed, io the parameters that hold these, vals the arguments -/
structure Ctx where
  E : Ev
  G0 : Hp
  H0 : Hp
  B : Nat → List Addr
  io : List Nat
  vals : List V
def env (σ : L2.St) (τ : List V) : L2.St := σ ++ τ.map some
def SlOk (E : Ev) (G H : Hp) : Sl → Option (Option V) → List Addr → Prop
  | .no, _, A => A = []
  | .pl d, x, A => A = [] ∧ ∃ v, x = some (some v) ∧ Rs E G d v
  | .ow o, x, A => ∃ v, x = some (some v) ∧ Ro E G H o v A
structure Real (c : Ctx) (G : Hp) (S : List Sl) (As : Nat → List Addr) (τ : List V) (σ : L2.St) (H : Hp) : Prop where
  exG : Ex G H
  sl : ∀ i s, S[i]? = some s → SlOk c.E G H s (env σ τ)[i]? (As i)
  len : S.length = σ.length + τ.length
  emp : ∀ i, S.length ≤ i → As i = []
  nd : ∀ i, (As i).Nodup
  dj : ∀ i j a, a ∈ As i → a ∈ As j → i = j
  nf : ∀ i a, a ∈ As i → G a = none
  g0 : Ex c.G0 G
  gn : ∀ a, c.H0 a ≠ none → G a = c.G0 a
  fr0 : ∀ a o, c.H0 a = some o → (∀ i ∈ c.io, a ∉ c.B i) → H a = some o
  stay : ∀ a, c.H0 a ≠ none → H a ≠ none
  fn : ∀ i a, a ∈ As i → c.H0 a = none ∨ (i ∈ c.io ∧ a ∈ c.B i)
  io : ∀ i ∈ c.io, ∃ o v, S[i]? = some (.ow o) ∧ c.vals[i]? = some v ∧ σ[i]? = some (some v)
structure Post (mods : List Nat) (S S' : List Sl) (As As' : Nat → List Addr) (G G' H H' : Hp) : Prop where
  exG : Ex G G'
  same : ∀ j, j ∉ mods → S'[j]? = S[j]? ∧ As' j = As j
  frm : ∀ a o, H a = some o → (∀ j ∈ mods, a ∉ As j) → H' a = some o
  new : ∀ j a, a ∈ As' j → a ∈ As j ∨ (∃ k ∈ mods, a ∈ As k) ∨ H a = none
  stay : ∀ a, H a ≠ none → H' a ≠ none
  len : S'.length = S.length
  gn : ∀ a, H a ≠ none → (∀ j ∈ mods, a ∉ As j) → G' a = G a
/-- all that H has stays just so -/
def Keep (H H' : Hp) : Prop := ∀ a o, H a = some o → H' a = some o
theorem Keep.refl (H : Hp) : Keep H H := fun _ _ h => h
theorem Keep.new {H : Hp} {p : Addr} {o : HO} (h : H p = none) : Keep H (upd H p o) := fun a u e => by
  rw [upd_ne (ne_of_none e h)]
  exact e
theorem Keep.ex {H H' : Hp} (k : Keep H H') : Ex H H' := Ex.of k
theorem Keep.trans {H H1 H2 : Hp} (a : Keep H H1) (b : Keep H1 H2) : Keep H H2 := fun x o h => b x o (a x o h)
theorem Keep.stay {H H' : Hp} (k : Keep H H') {a : Addr} (h : H a ≠ none) : H' a ≠ none := by
  cases e : H a with
  | none => exact absurd e h
  | some o => rw [k a o e]; exact fun z => nomatch z

section
variable {mods m1 m2 : List Nat} {S S' S1 S2 : List Sl} {As As' As1 As2 : Nat → List Addr} {G G' G1 G2 H H' H1 H2 : Hp}
theorem Post.of_keep (e : Ex G G') (k : Keep H H') (g : ∀ a, H a ≠ none → G' a = G a) : Post mods S S As As G G' H H' :=
  ⟨e, fun _ _ => ⟨rfl, rfl⟩, fun a o h _ => k a o h, fun _ _ h => .inl h, fun _ h => k.stay h, rfl, fun a h _ => g a h⟩
theorem Post.refl : Post mods S S As As G G H H := Post.of_keep (Ex.refl G) (Keep.refl H) fun _ _ => rfl
theorem Post.keep (p : Post [] S S' As As' G G' H H') : Keep H H' := fun a o h => p.frm a o h fun _ z => nomatch z
theorem Post.trans (p : Post m1 S S1 As As1 G G1 H H1) (q : Post m2 S1 S2 As1 As2 G1 G2 H1 H2) : Post (m1 ++ m2) S S2 As As2 G G2 H H2 where
  exG := p.exG.trans q.exG
  same := fun j hj => by
    have h1 := p.same j fun z => hj (List.mem_append_left _ z)
    have h2 := q.same j fun z => hj (List.mem_append_right _ z)
    exact ⟨h2.1.trans h1.1, h2.2.trans h1.2⟩
  frm := fun a o h hn => by
    refine q.frm a o (p.frm a o h fun j hj => hn j (List.mem_append_left _ hj)) fun j hj z => ?_
    rcases p.new j a z with z1 | ⟨k, hk, z1⟩ | z1
    · exact hn j (List.mem_append_right _ hj) z1
    · exact hn k (List.mem_append_left _ hk) z1
    · rw [h] at z1; cases z1
  new := fun j a h => by
    rcases q.new j a h with z | ⟨k, hk, z⟩ | z
    · rcases p.new j a z with z1 | ⟨k, hk, z1⟩ | z1
      · exact .inl z1
      · exact .inr (.inl ⟨k, List.mem_append_left _ hk, z1⟩)
      · exact .inr (.inr z1)
    · rcases p.new k a z with z1 | ⟨k', hk', z1⟩ | z1
      · exact .inr (.inl ⟨k, List.mem_append_right _ hk, z1⟩)
      · exact .inr (.inl ⟨k', List.mem_append_left _ hk', z1⟩)
      · exact .inr (.inr z1)
    · refine .inr (.inr ?_)
      cases e : H a with
      | none => rfl
      | some o => exact absurd z (p.stay a (by rw [e]; exact fun z => nomatch z))
  stay := fun a h => q.stay a (p.stay a h)
  len := q.len.trans p.len
  gn := fun a h hn => by
    have h1 := p.gn a h fun j hj => hn j (List.mem_append_left _ hj)
    refine (q.gn a (p.stay a h) fun j hj z => ?_).trans h1
    rcases p.new j a z with z1 | ⟨k, hk, z1⟩ | z1
    · exact hn j (List.mem_append_right _ hj) z1
    · exact hn k (List.mem_append_left _ hk) z1
    · exact h z1
theorem Post.mono (p : Post m1 S S' As As' G G' H H') (h : ∀ j ∈ m1, j ∈ m2) : Post m2 S S' As As' G G' H H' :=
  ⟨p.exG, fun j hj => p.same j fun z => hj (h j z), fun a o e hn => p.frm a o e fun j hj => hn j (h j hj), fun j a z => by
    rcases p.new j a z with z1 | ⟨k, hk, z1⟩ | z1
    · exact .inl z1
    · exact .inr (.inl ⟨k, h k hk, z1⟩)
    · exact .inr (.inr z1), p.stay, p.len, fun a e hn => p.gn a e fun j hj => hn j (h j hj)⟩
end

/-- G and the nodes at A of H -/
def frz (G H : Hp) (A : List Addr) : Hp := fun a => if a ∈ A then H a else G a
theorem frz_in {G H : Hp} {A : List Addr} {a : Addr} (h : a ∈ A) : frz G H A a = H a := if_pos h
theorem frz_out {G H : Hp} {A : List Addr} {a : Addr} (h : a ∉ A) : frz G H A a = G a := if_neg h
theorem frz_ex {G H : Hp} {A : List Addr} (n : ∀ a ∈ A, G a = none) : Ex G (frz G H A) := fun a o e => .inl (by
  rw [frz_out fun z => by rw [n a z] at e; cases e]
  exact e)
theorem frz_of {G H : Hp} {A : List Addr} (e : Ex G H) : Ex (frz G H A) H := fun a o h => by
  by_cases z : a ∈ A
  · rw [frz_in z] at h
    exact .inl h
  · rw [frz_out z] at h
    exact e a o h

section
variable {c : Ctx} {G G' : Hp} {S : List Sl} {As : Nat → List Addr} {τ : List V} {σ : L2.St} {H H' : Hp}
theorem SlOk.keep {E : Ev} {s : Sl} {x : Option (Option V)} {A : List Addr} (e : Ex G G') (h : SlOk E G H s x A) (k : ∀ a ∈ A, ∀ u, H a = some u → H' a = some u) : SlOk E G' H' s x A := by
  cases s with
  | no => exact h
  | pl d =>
    obtain ⟨h1, v, h2, h3⟩ := h
    exact ⟨h1, v, h2, Rs.mono e h3⟩
  | ow o =>
    obtain ⟨v, h2, h3⟩ := h
    exact ⟨v, h2, Ro.keep e h3 k⟩
theorem SlOk.there {E : Ev} {s : Sl} {x : Option (Option V)} {A : List Addr} (h : SlOk E G H s x A) : ∀ a ∈ A, H a ≠ none := by
  cases s with
  | no =>
    have h1 : A = [] := h
    intro a ha
    rw [h1] at ha
    cases ha
  | pl d =>
    intro a ha
    rw [h.1] at ha
    cases ha
  | ow o =>
    obtain ⟨v, h2, h3⟩ := h
    exact Ro.there h3
theorem Real.there (R : Real c G S As τ σ H) {i : Nat} {a : Addr} (h : a ∈ As i) : H a ≠ none := by
  cases e : S[i]? with
  | none =>
    have := R.emp i (List.getElem?_eq_none_iff.mp e)
    rw [this] at h
    cases h
  | some s => exact (R.sl i s e).there a h
/-- the heap grows, all that was there stands -/
theorem Real.keep (R : Real c G S As τ σ H) (k : Keep H H') : Real c G S As τ σ H' :=
  ⟨R.exG.trans k.ex, fun i s e => (R.sl i s e).keep (Ex.refl G) fun a _ u h => k a u h, R.len, R.emp, R.nd, R.dj, R.nf, R.g0, R.gn, fun a o e n => k a o (R.fr0 a o e n), fun a h => k.stay (R.stay a h), R.fn, R.io⟩
/-- what may be shared grows by new things -/
theorem Real.grow (R : Real c G S As τ σ H) (e : Ex G G') (x : Ex G' H) (n : ∀ a, G' a ≠ none → G a = none → c.H0 a = none ∧ ∀ i, a ∉ As i) (s : ∀ a, G a ≠ none → G' a = G a) : Real c G' S As τ σ H :=
  ⟨x, fun i s e1 => (R.sl i s e1).keep e fun a _ u h => h, R.len, R.emp, R.nd, R.dj, fun i a h => by
    have h1 := R.nf i a h
    cases q : G' a with
    | none => rfl
    | some o => exact absurd h ((n a (by rw [q]; exact fun z => nomatch z) h1).2 i), R.g0.trans e, fun a h => by
    have h1 := R.gn a h
    cases q : G a with
    | none =>
      cases q2 : G' a with
      | none => rw [← h1, q]
      | some o => exact absurd (n a (by rw [q2]; exact fun z => nomatch z) q).1 h
    | some o =>
      rw [s a (by rw [q]; exact fun z => nomatch z)]
      exact h1, R.fr0, R.stay, R.fn, R.io⟩
/-- new nodes, told apart from all else -/
structure New (c : Ctx) (G : Hp) (As : Nat → List Addr) (A : List Addr) : Prop where
  nd : A.Nodup
  h0 : ∀ a ∈ A, c.H0 a = none
  g : ∀ a ∈ A, G a = none
  out : ∀ a ∈ A, ∀ i, a ∉ As i
theorem New.nil : New c G As [] := ⟨List.nodup_nil, (fun _ h => nomatch h), (fun _ h => nomatch h), (fun _ h => nomatch h)⟩
/-- what H does not have is new -/
theorem Real.fresh (R : Real c G S As τ σ H) {p : Addr} (h : H p = none) : c.H0 p = none ∧ G p = none ∧ ∀ i, p ∉ As i := by
  refine ⟨?_, ?_, fun i z => R.there z h⟩
  · cases e : c.H0 p with
    | none => rfl
    | some o => exact absurd h (R.stay p (by rw [e]; exact fun z => nomatch z))
  · cases e : G p with
    | none => rfl
    | some o => exact absurd h (R.exG.some e)
theorem Real.new1 (R : Real c G S As τ σ H) {p : Addr} (h : H p = none) : New c G As [p] := by
  obtain ⟨h1, h2, h3⟩ := R.fresh h
  refine ⟨List.nodup_cons.mpr ⟨fun z => (nomatch z), List.nodup_nil⟩, ?_, ?_, ?_⟩ <;> intro a ha <;> obtain rfl : a = p := by simpa using ha
  · exact h1
  · exact h2
  · exact h3
/-- a new thing is shared from now on -/
theorem Real.freeze (R : Real c G S As τ σ H) {A : List Addr} (N : New c G As A) : Real c (frz G H A) S As τ σ H :=
  R.grow (frz_ex N.g) (frz_of R.exG) (fun a h n => by
    by_cases z : a ∈ A
    · exact ⟨N.h0 a z, N.out a z⟩
    · rw [frz_out z] at h
      exact absurd n h) fun a h => frz_out fun z => h (N.g a z)
theorem Real.frozen (R : Real c G S As τ σ H) {A : List Addr} {o : O} {v : V} (N : New c G As A) (h : Ro c.E G H o v A) : Rs c.E (frz G H A) (fr o) v :=
  Ro.see (frz_ex N.g) h fun a ha u e => by rw [frz_in ha]; exact e

/-! ### slots -/
def upA (As : Nat → List Addr) (i : Nat) (A : List Addr) : Nat → List Addr := fun j => if j = i then A else As j
theorem upA_same {i : Nat} {A : List Addr} : upA As i A i = A := if_pos rfl
theorem upA_ne {i j : Nat} {A : List Addr} (h : j ≠ i) : upA As i A j = As j := if_neg h
theorem env_set {i : Nat} {v : Option V} (h : i < σ.length) : env (σ.set i v) τ = (env σ τ).set i v := by
  unfold env
  rw [List.set_append_left _ _ h]
theorem env_len : (env σ τ).length = σ.length + τ.length := by
  unfold env
  rw [List.length_append, List.length_map]
/-- a value is put into a slot -/
theorem Real.put (R : Real c G S As τ σ H) {i : Nat} {s : Sl} {v : V} {A : List Addr} (hi : i < σ.length) (hio : i ∉ c.io) (N : New c G As A) (h : SlOk c.E G H s (some (some v)) A) : Real c G (S.set i s) (upA As i A) τ (σ.set i (some v)) H where
  exG := R.exG
  sl := fun j s' e => by
    have hl : i < S.length := by rw [R.len]; omega
    by_cases hj : j = i
    · subst hj
      rw [List.getElem?_set_self hl] at e
      cases e
      rw [env_set hi, List.getElem?_set_self (by rw [env_len]; omega), upA_same]
      exact h
    · rw [List.getElem?_set_ne (Ne.symm hj)] at e
      rw [env_set hi, List.getElem?_set_ne (Ne.symm hj), upA_ne hj]
      exact R.sl j s' e
  len := by rw [List.length_set, List.length_set]; exact R.len
  emp := fun j hj => by
    rw [List.length_set] at hj
    have : j ≠ i := by have := R.len; omega
    rw [upA_ne this]
    exact R.emp j hj
  nd := fun j => by
    by_cases hj : j = i
    · rw [hj, upA_same]; exact N.nd
    · rw [upA_ne hj]; exact R.nd j
  dj := fun j k a hj hk => by
    by_cases h1 : j = i
    · by_cases h2 : k = i
      · rw [h1, h2]
      · rw [h1, upA_same] at hj
        rw [upA_ne h2] at hk
        exact absurd hk (N.out a hj k)
    · by_cases h2 : k = i
      · rw [h2, upA_same] at hk
        rw [upA_ne h1] at hj
        exact absurd hj (N.out a hk j)
      · rw [upA_ne h1] at hj
        rw [upA_ne h2] at hk
        exact R.dj j k a hj hk
  nf := fun j a hj => by
    by_cases h1 : j = i
    · rw [h1, upA_same] at hj; exact N.g a hj
    · rw [upA_ne h1] at hj; exact R.nf j a hj
  g0 := R.g0
  gn := R.gn
  fr0 := R.fr0
  stay := R.stay
  fn := fun j a hj => by
    by_cases h1 : j = i
    · rw [h1, upA_same] at hj; exact .inl (N.h0 a hj)
    · rw [upA_ne h1] at hj; exact R.fn j a hj
  io := fun j hj => by
    have : j ≠ i := fun z => hio (z ▸ hj)
    obtain ⟨o, w, h1, h2, h3⟩ := R.io j hj
    exact ⟨o, w, by rw [List.getElem?_set_ne (Ne.symm this)]; exact h1, h2, by rw [List.getElem?_set_ne (Ne.symm this)]; exact h3⟩
/-- a slot is forgotten (a comprehension's own name) -/
theorem Real.drop (R : Real c G S As τ σ H) {i : Nat} {x : Option V} (hi : i < σ.length) (hio : i ∉ c.io) : Real c G (S.set i .no) (upA As i []) τ (σ.set i x) H where
  exG := R.exG
  sl := fun j s' e => by
    have hl : i < S.length := by rw [R.len]; omega
    by_cases hj : j = i
    · subst hj
      rw [List.getElem?_set_self hl] at e
      cases e
      rw [upA_same]
      rfl
    · rw [List.getElem?_set_ne (Ne.symm hj)] at e
      rw [env_set hi, List.getElem?_set_ne (Ne.symm hj), upA_ne hj]
      exact R.sl j s' e
  len := by rw [List.length_set, List.length_set]; exact R.len
  emp := fun j hj => by
    rw [List.length_set] at hj
    by_cases z : j = i
    · rw [z, upA_same]
    · rw [upA_ne z]
      exact R.emp j hj
  nd := fun j => by
    by_cases hj : j = i
    · rw [hj, upA_same]; exact List.nodup_nil
    · rw [upA_ne hj]; exact R.nd j
  dj := fun j k a hj hk => by
    by_cases h1 : j = i
    · rw [h1, upA_same] at hj; cases hj
    · by_cases h2 : k = i
      · rw [h2, upA_same] at hk; cases hk
      · rw [upA_ne h1] at hj
        rw [upA_ne h2] at hk
        exact R.dj j k a hj hk
  nf := fun j a hj => by
    by_cases h1 : j = i
    · rw [h1, upA_same] at hj; cases hj
    · rw [upA_ne h1] at hj; exact R.nf j a hj
  g0 := R.g0
  gn := R.gn
  fr0 := R.fr0
  stay := R.stay
  fn := fun j a hj => by
    by_cases h1 : j = i
    · rw [h1, upA_same] at hj; cases hj
    · rw [upA_ne h1] at hj; exact R.fn j a hj
  io := fun j hj => by
    have : j ≠ i := fun z => hio (z ▸ hj)
    obtain ⟨o, w, h1, h2, h3⟩ := R.io j hj
    exact ⟨o, w, by rw [List.getElem?_set_ne (Ne.symm this)]; exact h1, h2, by rw [List.getElem?_set_ne (Ne.symm this)]; exact h3⟩
/-- a slot's own thing is taken out -/
theorem Real.take (R : Real c G S As τ σ H) {i : Nat} {o : O} (hi : i < σ.length) (hio : i ∉ c.io) (h : S[i]? = some (.ow o)) :
    ∃ v, σ[i]? = some (some v) ∧ Ro c.E G H o v (As i) ∧ Real c G (S.set i .no) (upA As i []) τ σ H ∧ New c G (upA As i []) (As i) := by
  obtain ⟨v, h1, h2⟩ := R.sl i _ h
  have h3 : σ[i]? = some (some v) := by
    unfold env at h1
    rw [List.getElem?_append_left hi] at h1
    exact h1
  have R2 := R.drop (x := some v) hi hio
  have e : σ.set i (some v) = σ := by
    apply List.ext_getElem?
    intro j
    by_cases hj : j = i
    · subst hj; rw [List.getElem?_set_self hi, h3]
    · rw [List.getElem?_set_ne (Ne.symm hj)]
  rw [e] at R2
  refine ⟨v, h3, h2, R2, R.nd i, fun a ha => ?_, fun a ha => R.nf i a ha, fun a ha j z => ?_⟩
  · rcases R.fn i a ha with z | z
    · exact z
    · exact absurd z.1 hio
  · by_cases hj : j = i
    · rw [hj, upA_same] at z; cases z
    · rw [upA_ne hj] at z
      exact hj (R.dj j i a z ha)
/-- a thing on the way is put behind the slots -/
theorem Real.push (R : Real c G S As τ σ H) {o : O} {v : V} {A : List Addr} (N : New c G As A) (h : Ro c.E G H o v A) : Real c G (S ++ [.ow o]) (upA As S.length A) (τ ++ [v]) σ H where
  exG := R.exG
  sl := fun j s' e => by
    have e2 : env σ (τ ++ [v]) = env σ τ ++ [some v] := by
      unfold env
      rw [List.map_append, List.append_assoc]
      rfl
    by_cases hj : j = S.length
    · rw [hj, List.getElem?_append_right (Nat.le_refl _), Nat.sub_self] at e
      cases e
      rw [e2, hj, List.getElem?_append_right (by rw [env_len, ← R.len]; exact Nat.le_refl _), env_len, ← R.len, Nat.sub_self, upA_same]
      exact ⟨v, rfl, h⟩
    · have hlt : j < S.length := by
        have := (List.getElem?_eq_some_iff.mp e).1
        rw [List.length_append] at this
        have z : ([Sl.ow o] : List Sl).length = 1 := rfl
        omega
      rw [List.getElem?_append_left hlt] at e
      rw [e2, List.getElem?_append_left (by rw [env_len, ← R.len]; exact hlt), upA_ne hj]
      exact R.sl j s' e
  len := by
    rw [List.length_append, List.length_append, R.len]
    show σ.length + τ.length + 1 = σ.length + (τ.length + 1)
    omega
  emp := fun j hj => by
    rw [List.length_append] at hj
    have z : ([Sl.ow o] : List Sl).length = 1 := rfl
    rw [upA_ne (by omega)]
    exact R.emp j (by omega)
  nd := fun j => by
    by_cases hj : j = S.length
    · rw [hj, upA_same]; exact N.nd
    · rw [upA_ne hj]; exact R.nd j
  dj := fun j k a hj hk => by
    by_cases h1 : j = S.length
    · by_cases h2 : k = S.length
      · rw [h1, h2]
      · rw [h1, upA_same] at hj
        rw [upA_ne h2] at hk
        exact absurd hk (N.out a hj k)
    · by_cases h2 : k = S.length
      · rw [h2, upA_same] at hk
        rw [upA_ne h1] at hj
        exact absurd hj (N.out a hk j)
      · rw [upA_ne h1] at hj
        rw [upA_ne h2] at hk
        exact R.dj j k a hj hk
  nf := fun j a hj => by
    by_cases h1 : j = S.length
    · rw [h1, upA_same] at hj; exact N.g a hj
    · rw [upA_ne h1] at hj; exact R.nf j a hj
  g0 := R.g0
  gn := R.gn
  fr0 := R.fr0
  stay := R.stay
  fn := fun j a hj => by
    by_cases h1 : j = S.length
    · rw [h1, upA_same] at hj; exact .inl (N.h0 a hj)
    · rw [upA_ne h1] at hj; exact R.fn j a hj
  io := fun j hj => by
    obtain ⟨o', w, h1, h2, h3⟩ := R.io j hj
    exact ⟨o', w, by rw [List.getElem?_append_left (List.getElem?_eq_some_iff.mp h1).1]; exact h1, h2, h3⟩
/-- .. and taken from there: it stays a temporary that nobody names -/
theorem Real.pop {o : O} {v : V} (R : Real c G (S ++ [.ow o]) As (τ ++ [v]) σ H) : Ro c.E G H o v (As S.length) ∧ Real c G S (upA As S.length []) τ σ H ∧ (S.length ∉ c.io → New c G (upA As S.length []) (As S.length)) := by
  have hl : S.length = σ.length + τ.length := by
    have := R.len
    rw [List.length_append, List.length_append] at this
    have z : ([Sl.ow o] : List Sl).length = 1 := rfl
    have z2 : ([v] : List V).length = 1 := rfl
    omega
  have e2 : env σ (τ ++ [v]) = env σ τ ++ [some v] := by
    unfold env
    rw [List.map_append, List.append_assoc]
    rfl
  obtain ⟨v', h1, h2⟩ := R.sl S.length (.ow o) (by rw [List.getElem?_append_right (Nat.le_refl _), Nat.sub_self]; rfl)
  rw [e2, List.getElem?_append_right (by rw [env_len, ← hl]; exact Nat.le_refl _), env_len, ← hl, Nat.sub_self] at h1
  have ev : v = v' := Option.some.inj (Option.some.inj h1)
  subst ev
  refine ⟨h2, ⟨R.exG, fun j s' e => ?_, hl, fun j hj => ?_, fun j => ?_, fun j k a hj hk => ?_, fun j a hj => ?_, R.g0, R.gn, R.fr0, R.stay, fun j a hj => ?_, fun j hj => ?_⟩, fun hio => ⟨R.nd _, fun a ha => ?_, fun a ha => R.nf _ a ha, fun a ha j z => ?_⟩⟩
  · have hlt := (List.getElem?_eq_some_iff.mp e).1
    have q := R.sl j s' (by rw [List.getElem?_append_left hlt]; exact e)
    rw [e2, List.getElem?_append_left (by rw [env_len, ← hl]; exact hlt)] at q
    rw [upA_ne (Nat.ne_of_lt hlt)]
    exact q
  · by_cases hj2 : j = S.length
    · rw [hj2, upA_same]
    · rw [upA_ne hj2]
      refine R.emp j ?_
      rw [List.length_append]
      have z : ([Sl.ow o] : List Sl).length = 1 := rfl
      omega
  · by_cases hj2 : j = S.length
    · rw [hj2, upA_same]; exact List.nodup_nil
    · rw [upA_ne hj2]; exact R.nd j
  · by_cases h1 : j = S.length
    · rw [h1, upA_same] at hj; cases hj
    · by_cases h2 : k = S.length
      · rw [h2, upA_same] at hk; cases hk
      · rw [upA_ne h1] at hj
        rw [upA_ne h2] at hk
        exact R.dj j k a hj hk
  · by_cases h1 : j = S.length
    · rw [h1, upA_same] at hj; cases hj
    · rw [upA_ne h1] at hj; exact R.nf j a hj
  · by_cases h1 : j = S.length
    · rw [h1, upA_same] at hj; cases hj
    · rw [upA_ne h1] at hj; exact R.fn j a hj
  · obtain ⟨o', w, h1, h2, h3⟩ := R.io j hj
    refine ⟨o', w, ?_, h2, h3⟩
    have hlt : j < σ.length := (List.getElem?_eq_some_iff.mp h3).1
    rw [List.getElem?_append_left (by omega)] at h1
    exact h1
  · rcases R.fn _ a ha with z | z
    · exact z
    · exact absurd z.1 hio
  · by_cases hj : j = S.length
    · rw [hj, upA_same] at z; cases z
    · rw [upA_ne hj] at z
      exact hj (R.dj j S.length a z ha)
end
end Z

/-! Z3: mirrors and what they mean; expressions. -/
namespace Z
open PySem PySem.Spec PyProof.Rows L2

inductive Out (α : Type) where
  | ok (a : α) (S : List Sl)
  | exc (C : Str) (fs : List Str) (ds : List D) (S : List Sl)
  | bad
abbrev M (α : Type) := List Sl → Out α
def Out.bd {α β : Type} (x : Out α) (k : α → List Sl → Out β) : Out β := match x with
  | .ok a S => k a S
  | .exc C fs ds S => .exc C fs ds S
  | .bad => .bad
def hp (md : Bool) (G H : Hp) : Hp := match md with
  | true => G
  | false => H
theorem hp_ex {md : Bool} {G H : Hp} (e : Ex G H) : Ex (hp md G H) H := by
  cases md with
  | true => exact e
  | false => exact Ex.refl H
/-- an exception's own fields -/
def ExcAt (E : Ev) (G H : Hp) (fs : List Str) (ds : List D) (dd : Option Addr) : Prop :=
  (fs = [] ∧ ds = [] ∧ dd = none) ∨ ∃ d xs, dd = some d ∧ H d = some (.xd xs) ∧ xs.map (·.1) = fs ∧ RsL E G ds (xs.map (·.2))
/-- what an outcome asks -/
def fin {α : Type} (c : Ctx) (X : XK) : Out α → (α → List Sl → Prop) → Prop
  | .ok a S, k => k a S
  | .exc C fs ds S, _ => ∀ G As τ σ H dd, Real c G S As τ σ H → ExcAt c.E G H fs ds dd → X (.ref (c.E.ca C)) dd H
  | .bad, _ => False
/-- an expression: shared (md) or seen; it may change the slots mods -/
def tE (c : Ctx) (X : XK) (md : Bool) (mods : List Nat) (m : M D) : TE := fun σ H Q => ∃ G S As τ, Real c G S As τ σ H ∧ fin c X (m S) fun d S' =>
  ∀ v G' As' H', Real c G' S' As' τ σ H' → Post mods S S' As As' G G' H H' → Rs c.E (hp md G' H') d v → Q v H'
/-- nodes that are new, or were a changed slot's -/
def Frs (mods : List Nat) (As : Nat → List Addr) (H : Hp) (A : List Addr) : Prop := ∀ a ∈ A, H a = none ∨ ∃ k ∈ mods, a ∈ As k
/-- an expression that makes a thing of one's own -/
def tO (c : Ctx) (X : XK) (mods : List Nat) (m : M O) : TE := fun σ H Q => ∃ G S As τ, Real c G S As τ σ H ∧ fin c X (m S) fun o S' =>
  ∀ v A G' As' H', Real c G' S' As' τ σ H' → Post mods S S' As As' G G' H H' → Ro c.E G' H' o v A → New c G' As' A → Frs mods As H A → Q v H'
def tT (c : Ctx) (X : XK) (mods : List Nat) (m : M Bool) : TT := fun σ H Q => ∃ G S As τ, Real c G S As τ σ H ∧ fin c X (m S) fun b S' =>
  ∀ G' As' H', Real c G' S' As' τ σ H' → Post mods S S' As As' G G' H H' → Q b H'
theorem fin_mono {α : Type} {c : Ctx} {X : XK} {x : Out α} {k k' : α → List Sl → Prop} (h : fin c X x k) (f : ∀ a S, x = .ok a S → k a S → k' a S) : fin c X x k' := by
  cases x with
  | ok a S => exact f a S rfl h
  | exc C fs ds S => exact h
  | bad => exact h
theorem fin_bd {α β : Type} {c : Ctx} {X : XK} {x : Out α} {k : α → List Sl → Out β} {q : β → List Sl → Prop} (h : fin c X (x.bd k) q) : fin c X x fun a S => fin c X (k a S) q := by
  cases x with
  | ok a S => exact h
  | exc C fs ds S => exact h
  | bad => exact h
theorem PEw {X : Cx} {e : Expr} {t t' : TE} (h : PE X e t) (w : ∀ σ H Q, t' σ H Q → t σ H Q) : PE X e t' := ⟨fun pins s σ H Q I q => h.run pins s σ H Q I (w σ H Q q)⟩
theorem PTw {X : Cx} {e : Expr} {t t' : TT} (h : PT X e t) (w : ∀ σ H Q, t' σ H Q → t σ H Q) : PT X e t' := ⟨fun pins s σ H Q I q => h.run pins s σ H Q I (w σ H Q q)⟩
theorem PWw {X : Cx} {e : Expr} {t t' : TT} (h : PW X e t) (w : ∀ σ H Q, t' σ H Q → t σ H Q) : PW X e t' := ⟨fun wh pins s σ H Q I q => h.run wh pins s σ H Q I (w σ H Q q)⟩
theorem PSw {X : Cx} {st : Stmt} {t t' : TS} (h : PS X st t) (w : ∀ D σ H, t' D σ H → t D σ H) : PS X st t' := ⟨fun pins s σ H D I q => h.run pins s σ H D I (w D σ H q)⟩

/-! ### names, constants -/
def mVar (i : Nat) : M D := fun S => match S[i]? with
  | some (.pl d) => .ok d S
  | _ => .bad
def mSee (i : Nat) : M D := fun S => match S[i]? with
  | some (.ow o) => .ok (fr o) S
  | _ => .bad
def mC {α : Type} (d : α) : M α := fun S => .ok d S
section
variable {c : Ctx} {X : XK} {σ : L2.St} {H : Hp} {Q : VK} {i : Nat} {d : D} {v : V} {mods m1 m2 : List Nat}
theorem env_lt {σ : L2.St} {τ : List V} {i : Nat} (h : i < σ.length) : (env σ τ)[i]? = σ[i]? := by
  unfold env
  rw [List.getElem?_append_left h]
theorem pl_at {G : Hp} {S : List Sl} {As : Nat → List Addr} {τ : List V} (R : Real c G S As τ σ H) (hi : i < σ.length) (e : S[i]? = some (.pl d)) : ∃ v, σ[i]? = some (some v) ∧ Rs c.E G d v := by
  obtain ⟨_, v, h1, h2⟩ := R.sl i _ e
  rw [env_lt hi] at h1
  exact ⟨v, h1, h2⟩
theorem ow_at {G : Hp} {S : List Sl} {As : Nat → List Addr} {τ : List V} {o : O} (R : Real c G S As τ σ H) (hi : i < σ.length) (e : S[i]? = some (.ow o)) : ∃ v, σ[i]? = some (some v) ∧ Ro c.E G H o v (As i) := by
  obtain ⟨v, h1, h2⟩ := R.sl i _ e
  rw [env_lt hi] at h1
  exact ⟨v, h1, h2⟩
end
section
variable {X : Cx} {c : Ctx} {W : XK} {mods m1 m2 : List Nat} {md md1 md2 : Bool} {e a b : Expr} {pos : Pos}
/-- slots are those of the names -/
theorem PE.len {t : TE} (h : ∀ n, X.N.length = n → PE X e t) : PE X e t := h _ rfl
/-- an expression, where the slots are as many as the names -/
theorem PEl {t t' : TE} (h : PE X e t) (w : ∀ σ H Q, σ.length = X.N.length → t' σ H Q → t σ H Q) : PE X e t' := ⟨fun pins s σ H Q I q => h.run pins s σ H Q I (w σ H Q I.len q)⟩
theorem PSl {st : Stmt} {t t' : TS} (h : PS X st t) (w : ∀ D σ H, σ.length = X.N.length → t' D σ H → t D σ H) : PS X st t' := ⟨fun pins s σ H D I q => h.run pins s σ H D I (w D σ H I.len q)⟩
theorem zVar {i : Nat} {x : Str} {p : Pos} (hN : X.N[i]? = some x := by rfl) (hv : Vis X.env.scope x := by first | exact Or.inl rfl | exact Or.inr (Or.inl rfl) | exact Or.inr (Or.inr rfl))
    (hd : (x == ("__debug__" : Str)) = false := by decide) (hcd : (x == ("__classdict__" : Str)) = false := by decide) : PE X (.Name x p) (tE c W true [] (mVar i)) :=
  PEl (pe_var (i := i) hN hv hd hcd) fun σ H Q hl ⟨G, S, As, τ, R, h⟩ => by
    have hi : i < σ.length := by rw [hl]; exact (List.getElem?_eq_some_iff.mp hN).1
    unfold mVar at h
    split at h
    · rename_i d e
      obtain ⟨v, h1, h2⟩ := pl_at R hi e
      exact ⟨v, h1, h v G As H R Post.refl h2⟩
    · exact h.elim
theorem zSee {i : Nat} {x : Str} {p : Pos} (hN : X.N[i]? = some x := by rfl) (hv : Vis X.env.scope x := by first | exact Or.inl rfl | exact Or.inr (Or.inl rfl) | exact Or.inr (Or.inr rfl))
    (hd : (x == ("__debug__" : Str)) = false := by decide) (hcd : (x == ("__classdict__" : Str)) = false := by decide) : PE X (.Name x p) (tE c W false [] (mSee i)) :=
  PEl (pe_var (i := i) hN hv hd hcd) fun σ H Q hl ⟨G, S, As, τ, R, h⟩ => by
    have hi : i < σ.length := by rw [hl]; exact (List.getElem?_eq_some_iff.mp hN).1
    unfold mSee at h
    split at h
    · rename_i o e
      obtain ⟨v, h1, h2⟩ := ow_at R hi e
      exact ⟨v, h1, h v G As H R Post.refl (Ro.see R.exG h2 fun _ _ _ q => q)⟩
    · exact h.elim
theorem zC {t : TE} {d : D} {v : V} (h : PE X e (tC v)) (r : ∀ G, Rs c.E G d v) : PE X e (tE c W true [] (mC d)) :=
  PEw h fun σ H Q ⟨G, S, As, τ, R, h⟩ => h v G As H R Post.refl (r G)
theorem zInt {i : Int} {j : Nat} : PE X (.Constant (.int i) j pos) (tE c W true [] (mC (.int i))) := zC (t := tC .non) pe_int fun _ => by unfold Rs; rfl
theorem zBl {b : Bool} {j : Nat} : PE X (.Constant (.bool b) j pos) (tE c W true [] (mC (.bl b))) := zC (t := tC .non) pe_bl fun _ => by unfold Rs; rfl
theorem zNon {j : Nat} : PE X (.Constant .none j pos) (tE c W true [] (mC .non)) := zC (t := tC .non) pe_non fun _ => by unfold Rs; rfl
theorem zStr {x : Str} {j : Nat} : PE X (.Constant (.str x) j pos) (tE c W true [] (mC (.str x))) := zC (t := tC .non) pe_str fun _ => by unfold Rs; rfl

/-! ### scalars -/
def isScal : D → Bool
  | .non => true
  | .bl _ => true
  | .int _ => true
  | .str _ => true
  | _ => false
theorem scal_any {E : Ev} {H H' : Hp} {d : D} {v : V} (s : isScal d = true) (h : Rs E H d v) : Rs E H' d v := by
  cases d <;> first | (unfold Rs at h ⊢; exact h) | cases s
/-- what is seen is kept, if it is a scalar -/
def mScal (m : M D) : M D := fun S => (m S).bd fun d S => match isScal d with
  | true => .ok d S
  | false => .bad
theorem zScal {m : M D} (h : PE X e (tE c W md mods m)) : PE X e (tE c W true mods (mScal m)) := PEw h fun σ H Q ⟨G, S, As, τ, R, q⟩ => by
  refine ⟨G, S, As, τ, R, fin_mono (fin_bd q) fun d S1 e1 k => ?_⟩
  intro v G' As' H' R' P r
  cases hs : isScal d with
  | false =>
    rw [hs] at k
    exact k.elim
  | true =>
    rw [hs] at k
    exact k v G' As' H' R' P (scal_any hs r)
/-- shared is seen -/
theorem zView {m : M D} (h : PE X e (tE c W true mods m)) : PE X e (tE c W false mods m) := PEw h fun σ H Q ⟨G, S, As, τ, R, q⟩ =>
  ⟨G, S, As, τ, R, fin_mono q fun d S1 e1 k v G' As' H' R' P r => k v G' As' H' R' P (Rs.mono R'.exG r)⟩
theorem zMods {m : M D} (h : PE X e (tE c W md m1 m)) (hm : ∀ j ∈ m1, j ∈ m2) : PE X e (tE c W md m2 m) := PEw h fun σ H Q ⟨G, S, As, τ, R, q⟩ =>
  ⟨G, S, As, τ, R, fin_mono q fun d S1 e1 k v G' As' H' R' P r => k v G' As' H' R' (P.mono hm) r⟩
/-- a made thing is shared -/
def mFr (m : M O) : M D := fun S => (m S).bd fun o S => .ok (fr o) S
theorem zFr {m : M O} (h : PE X e (tO c W mods m)) : PE X e (tE c W true mods (mFr m)) := PEw h fun σ H Q ⟨G, S, As, τ, R, q⟩ => by
  refine ⟨G, S, As, τ, R, fin_mono (fin_bd q) fun o S1 e1 k => ?_⟩
  intro v A G' As' H' R' P r N F
  refine k v (frz G' H' A) As' H' (R'.freeze N) ⟨P.exG.trans (frz_ex N.g), P.same, P.frm, P.new, P.stay, P.len, fun a h hn => ?_⟩ (R'.frozen N r)
  rw [frz_out fun z => ?_]
  · exact P.gn a h hn
  · rcases F a z with q | ⟨k, hk, q⟩
    · exact h q
    · exact hn k hk q
/-- shared data as a thing without own nodes -/
def mSh (m : M D) : M O := fun S => (m S).bd fun d S => .ok (.sh d) S
theorem zSh {m : M D} (h : PE X e (tE c W true mods m)) : PE X e (tO c W mods (mSh m)) := PEw h fun σ H Q ⟨G, S, As, τ, R, q⟩ => by
  refine ⟨G, S, As, τ, R, fin_mono (fin_bd q) fun d S1 e1 k => ?_⟩
  intro v G' As' H' R' P r
  exact k v [] G' As' H' R' P (by unfold Ro; exact ⟨rfl, r⟩) New.nil (fun _ z => nomatch z)

/-! ### two operands, one operand -/
def oo {γ : Type} (x : Option γ) (S : List Sl) : Out γ := match x with
  | some d => .ok d S
  | none => .bad
def m2x {α β γ : Type} (f : α → β → Option γ) (a : M α) (b : M β) : M γ := fun S => (a S).bd fun x S1 => (b S1).bd fun y S2 => oo (f x y) S2
def m1x {α γ : Type} (f : α → Option γ) (a : M α) : M γ := fun S => (a S).bd fun x S1 => oo (f x) S1
/-- from x's place to a later one -/
theorem rs_later {G1 G2 H1 H2 : Hp} {S1 S2 : List Sl} {As1 As2 : Nat → List Addr} {d : D} {v : V} (hm : (md1 || m2.isEmpty) = true) (P : Post m2 S1 S2 As1 As2 G1 G2 H1 H2) (h : Rs c.E (hp md1 G1 H1) d v) : Rs c.E (hp md1 G2 H2) d v := by
  cases md1 with
  | true => exact Rs.mono P.exG h
  | false =>
    cases m2 with
    | nil => exact Rs.mono P.keep.ex h
    | cons j r => cases hm
/-- r answers f, by a scalar or by a part of x -/
def Ans2 (c : Ctx) (r : R2) (f : D → D → Option D) : Prop := ∀ (h : Hp) (H : Hp) (dx dy d : D) (x y : V) (Q : VK), Ex h H → Rs c.E h dx x → Rs c.E H dy y → f dx dy = some d → (∀ v, Rs c.E h d v → Q v H) → r x y H Q
def Scal2 (f : D → D → Option D) : Prop := ∀ dx dy d, f dx dy = some d → isScal d = true
theorem w_op {r : R2} {f : D → D → Option D} {ma mb : M D} (hr : Ans2 c r f) (hm : (md1 || m2.isEmpty) = true) (σ : L2.St) (H : Hp) (Q : VK) (h : tE c W md1 (m1 ++ m2) (m2x f ma mb) σ H Q) :
    tOp r (tE c W md1 m1 ma) (tE c W md2 m2 mb) σ H Q := by
  obtain ⟨G, S, As, τ, R, q⟩ := h
  refine ⟨G, S, As, τ, R, fin_mono (fin_bd q) fun dx S1 e1 k => ?_⟩
  intro v G1 As1 H1 R1 P1 r1
  refine ⟨G1, S1, As1, τ, R1, fin_mono (fin_bd k) fun dy S2 e2 k2 => ?_⟩
  intro u G2 As2 H2 R2 P2 r2
  cases hf : f dx dy with
  | none =>
    rw [hf] at k2
    exact k2.elim
  | some d =>
    rw [hf] at k2
    exact hr (hp md1 G2 H2) H2 dx dy d v u Q (hp_ex R2.exG) (rs_later hm P2 r1) (Rs.mono (hp_ex R2.exG) r2) hf fun w hw => k2 w G2 As2 H2 R2 (P1.trans P2) hw
theorem w_opS {r : R2} {f : D → D → Option D} {ma mb : M D} (hr : Ans2 c r f) (hs : Scal2 f) (hm : (md1 || m2.isEmpty) = true) (σ : L2.St) (H : Hp) (Q : VK) (h : tE c W true (m1 ++ m2) (m2x f ma mb) σ H Q) :
    tOp r (tE c W md1 m1 ma) (tE c W md2 m2 mb) σ H Q := by
  obtain ⟨G, S, As, τ, R, q⟩ := h
  refine ⟨G, S, As, τ, R, fin_mono (fin_bd q) fun dx S1 e1 k => ?_⟩
  intro v G1 As1 H1 R1 P1 r1
  refine ⟨G1, S1, As1, τ, R1, fin_mono (fin_bd k) fun dy S2 e2 k2 => ?_⟩
  intro u G2 As2 H2 R2 P2 r2
  cases hf : f dx dy with
  | none =>
    rw [hf] at k2
    exact k2.elim
  | some d =>
    rw [hf] at k2
    exact hr (hp md1 G2 H2) H2 dx dy d v u Q (hp_ex R2.exG) (rs_later hm P2 r1) (Rs.mono (hp_ex R2.exG) r2) hf fun w hw => k2 w G2 As2 H2 R2 (P1.trans P2) (scal_any (hs dx dy d hf) hw)
/-- a scalar answer as a test -/
def mTst (m : M D) : M Bool := fun S => (m S).bd fun d S => match d with
  | .bl b => .ok b S
  | _ => .bad
theorem w_tst {t : TE} {m : M D} (h : ∀ σ H Q, tE c W md mods m σ H Q → t σ H Q) (σ : L2.St) (H : Hp) (Q : Bool → Hp → Prop) (q : tT c W mods (mTst m) σ H Q) : tTest t σ H Q := by
  obtain ⟨G, S, As, τ, R, q⟩ := q
  refine h σ H _ ⟨G, S, As, τ, R, fin_mono (fin_bd q) fun d S1 e1 k => ?_⟩
  intro v G' As' H' R' P r
  cases d with
  | bl b =>
    unfold Rs at r
    exact ⟨b, r, k G' As' H' R' P⟩
  | _ => exact k.elim
/-! arithmetic -/
def dI2 (f : Int → Int → D) : D → D → Option D
  | .int i, .int j => some (f i j)
  | _, _ => none
def dI2c (C : Int → Int → Bool) (f : Int → Int → D) : D → D → Option D
  | .int i, .int j => match C i j with
    | true => some (f i j)
    | false => none
  | _, _ => none
theorem ans_I0 {f : Int → Int → D} {g : Int → Int → V} (h : ∀ i j H, Rs c.E H (f i j) (g i j)) : Ans2 c (rI0 g) (dI2 f) := fun h' H dx dy d x y Q e rx ry hf k => by
  unfold dI2 at hf
  split at hf
  · unfold Rs at rx ry
    cases hf
    exact ⟨_, _, rx, ry, k _ (h _ _ _)⟩
  · cases hf
theorem ans_I {C : Int → Int → Prop} {C' : Int → Int → Bool} {f : Int → Int → D} {g : Int → Int → V} (hC : ∀ i j, C' i j = true → C i j) (h : ∀ i j H, Rs c.E H (f i j) (g i j)) : Ans2 c (rI C g) (dI2c C' f) := fun h' H dx dy d x y Q e rx ry hf k => by
  unfold dI2c at hf
  split at hf
  · split at hf
    · unfold Rs at rx ry
      cases hf
      exact ⟨_, _, rx, ry, hC _ _ (by assumption), k _ (h _ _ _)⟩
    · cases hf
  · cases hf
theorem scal_I0 {f : Int → Int → D} (h : ∀ i j, isScal (f i j) = true) : Scal2 (dI2 f) := fun dx dy d hf => by
  unfold dI2 at hf
  split at hf
  · cases hf; exact h _ _
  · cases hf
theorem scal_I {C' : Int → Int → Bool} {f : Int → Int → D} (h : ∀ i j, isScal (f i j) = true) : Scal2 (dI2c C' f) := fun dx dy d hf => by
  unfold dI2c at hf
  split at hf
  · split at hf
    · cases hf; exact h _ _
    · cases hf
  · cases hf
abbrev dAdd : D → D → Option D := dI2 fun i j => .int (i + j)
abbrev dSub : D → D → Option D := dI2 fun i j => .int (i - j)
abbrev dLt : D → D → Option D := dI2 fun i j => .bl (decide (i < j))
abbrev dLe : D → D → Option D := dI2 fun i j => .bl (decide (i ≤ j))
abbrev dGt : D → D → Option D := dI2 fun i j => .bl (decide (j < i))
abbrev dGe : D → D → Option D := dI2 fun i j => .bl (decide (j ≤ i))
abbrev dMod : D → D → Option D := dI2c (fun _ j => decide (0 < j)) fun i j => .int (i % j)
abbrev dDiv : D → D → Option D := dI2c (fun _ j => decide (0 < j ∧ j < 2 ^ 200)) fun i j => .int (i / j)
abbrev dPow : D → D → Option D := dI2c (fun i j => decide (0 ≤ j ∧ j ≤ 1000 ∧ i.natAbs < 2 ^ 64)) fun i j => .int (i ^ j.toNat)
abbrev dMul : D → D → Option D := dI2c (fun i j => decide ((-(2 ^ 64) < i ∧ i < 2 ^ 64) ∨ (-(2 ^ 64) < j ∧ j < 2 ^ 64))) fun i j => .int (i * j)
theorem divW_ok {i j : Int} (h : 0 < j ∧ j < 2 ^ 200) : CDivW i j := wide_div (b := 200) h.1 (by omega) (by decide) (by decide)
variable {ma mb : M D}
theorem zAdd (ha : PE X a (tE c W md1 m1 ma)) (hb : PE X b (tE c W md2 m2 mb)) (hm : (md1 || m2.isEmpty) = true := by rfl) : PE X (.BinOp a .Add b pos) (tE c W true (m1 ++ m2) (m2x dAdd ma mb)) :=
  PEw (pe_op op_add ha hb) (w_opS (ans_I0 fun _ _ _ => by unfold Rs; rfl) (scal_I0 fun _ _ => rfl) hm)
theorem zSub (ha : PE X a (tE c W md1 m1 ma)) (hb : PE X b (tE c W md2 m2 mb)) (hm : (md1 || m2.isEmpty) = true := by rfl) : PE X (.BinOp a .Sub b pos) (tE c W true (m1 ++ m2) (m2x dSub ma mb)) :=
  PEw (pe_op op_sub ha hb) (w_opS (ans_I0 fun _ _ _ => by unfold Rs; rfl) (scal_I0 fun _ _ => rfl) hm)
theorem zMul (ha : PE X a (tE c W md1 m1 ma)) (hb : PE X b (tE c W md2 m2 mb)) (hm : (md1 || m2.isEmpty) = true := by rfl) : PE X (.BinOp a .Mult b pos) (tE c W true (m1 ++ m2) (m2x dMul ma mb)) :=
  PEw (pe_op op_mul ha hb) (w_opS (ans_I (fun i j h => (show CMul i j from of_decide_eq_true (p := (-(2 ^ 64) < i ∧ i < 2 ^ 64) ∨ (-(2 ^ 64) < j ∧ j < 2 ^ 64)) h)) fun _ _ _ => by unfold Rs; rfl) (scal_I fun _ _ => rfl) hm)
theorem zMod (ha : PE X a (tE c W md1 m1 ma)) (hb : PE X b (tE c W md2 m2 mb)) (hm : (md1 || m2.isEmpty) = true := by rfl) : PE X (.BinOp a .Mod b pos) (tE c W true (m1 ++ m2) (m2x dMod ma mb)) :=
  PEw (pe_op op_mod ha hb) (w_opS (ans_I (fun _ _ h => of_decide_eq_true h) fun _ _ _ => by unfold Rs; rfl) (scal_I fun _ _ => rfl) hm)
theorem zDiv (ha : PE X a (tE c W md1 m1 ma)) (hb : PE X b (tE c W md2 m2 mb)) (hm : (md1 || m2.isEmpty) = true := by rfl) : PE X (.BinOp a .FloorDiv b pos) (tE c W true (m1 ++ m2) (m2x dDiv ma mb)) :=
  PEw (pe_op op_fdivW ha hb) (w_opS (ans_I (fun i j h => (divW_ok (of_decide_eq_true h))) fun _ _ _ => by unfold Rs; rfl) (scal_I fun _ _ => rfl) hm)
theorem zPow (ha : PE X a (tE c W md1 m1 ma)) (hb : PE X b (tE c W md2 m2 mb)) (hm : (md1 || m2.isEmpty) = true := by rfl) : PE X (.BinOp a .Pow b pos) (tE c W true (m1 ++ m2) (m2x dPow ma mb)) :=
  PEw (pe_op op_pow ha hb) (w_opS (ans_I (fun i j h => (show CPow i j from by
    have := of_decide_eq_true (p := 0 ≤ j ∧ j ≤ 1000 ∧ i.natAbs < 2 ^ 64) h
    exact ⟨this.1, by omega, this.2.2⟩)) fun _ _ _ => by unfold Rs; rfl) (scal_I fun _ _ => rfl) hm)
/-! comparisons of ints -/
theorem zLt (ha : PE X a (tE c W md1 m1 ma)) (hb : PE X b (tE c W md2 m2 mb)) (hm : (md1 || m2.isEmpty) = true := by rfl) : PE X (.Compare a [.Lt] [b] pos) (tE c W true (m1 ++ m2) (m2x dLt ma mb)) :=
  PEw (pe_cmpR op_lt ha hb (nomark _)) (w_opS (ans_I0 fun _ _ _ => by unfold Rs; rfl) (scal_I0 fun _ _ => rfl) hm)
theorem zLe (ha : PE X a (tE c W md1 m1 ma)) (hb : PE X b (tE c W md2 m2 mb)) (hm : (md1 || m2.isEmpty) = true := by rfl) : PE X (.Compare a [.LtE] [b] pos) (tE c W true (m1 ++ m2) (m2x dLe ma mb)) :=
  PEw (pe_cmpR op_le ha hb (nomark _)) (w_opS (ans_I0 fun _ _ _ => by unfold Rs; rfl) (scal_I0 fun _ _ => rfl) hm)
theorem zGt (ha : PE X a (tE c W md1 m1 ma)) (hb : PE X b (tE c W md2 m2 mb)) (hm : (md1 || m2.isEmpty) = true := by rfl) : PE X (.Compare a [.Gt] [b] pos) (tE c W true (m1 ++ m2) (m2x dGt ma mb)) :=
  PEw (pe_cmpR op_gt ha hb (nomark _)) (w_opS (ans_I0 fun _ _ _ => by unfold Rs; rfl) (scal_I0 fun _ _ => rfl) hm)
theorem zGe (ha : PE X a (tE c W md1 m1 ma)) (hb : PE X b (tE c W md2 m2 mb)) (hm : (md1 || m2.isEmpty) = true := by rfl) : PE X (.Compare a [.GtE] [b] pos) (tE c W true (m1 ++ m2) (m2x dGe ma mb)) :=
  PEw (pe_cmpR op_ge ha hb (nomark _)) (w_opS (ans_I0 fun _ _ _ => by unfold Rs; rfl) (scal_I0 fun _ _ => rfl) hm)
theorem yLt (ha : PE X a (tE c W md1 m1 ma)) (hb : PE X b (tE c W md2 m2 mb)) (hm : (md1 || m2.isEmpty) = true := by rfl) : PT X (.Compare a [.Lt] [b] pos) (tT c W (m1 ++ m2) (mTst (m2x dLt ma mb))) :=
  PTw (pt_cmpR op_lt ha hb (nomark _)) (w_tst (w_opS (ans_I0 fun _ _ _ => by unfold Rs; rfl) (scal_I0 fun _ _ => rfl) hm))
theorem yLe (ha : PE X a (tE c W md1 m1 ma)) (hb : PE X b (tE c W md2 m2 mb)) (hm : (md1 || m2.isEmpty) = true := by rfl) : PT X (.Compare a [.LtE] [b] pos) (tT c W (m1 ++ m2) (mTst (m2x dLe ma mb))) :=
  PTw (pt_cmpR op_le ha hb (nomark _)) (w_tst (w_opS (ans_I0 fun _ _ _ => by unfold Rs; rfl) (scal_I0 fun _ _ => rfl) hm))
theorem yGt (ha : PE X a (tE c W md1 m1 ma)) (hb : PE X b (tE c W md2 m2 mb)) (hm : (md1 || m2.isEmpty) = true := by rfl) : PT X (.Compare a [.Gt] [b] pos) (tT c W (m1 ++ m2) (mTst (m2x dGt ma mb))) :=
  PTw (pt_cmpR op_gt ha hb (nomark _)) (w_tst (w_opS (ans_I0 fun _ _ _ => by unfold Rs; rfl) (scal_I0 fun _ _ => rfl) hm))
theorem yGe (ha : PE X a (tE c W md1 m1 ma)) (hb : PE X b (tE c W md2 m2 mb)) (hm : (md1 || m2.isEmpty) = true := by rfl) : PT X (.Compare a [.GtE] [b] pos) (tT c W (m1 ++ m2) (mTst (m2x dGe ma mb))) :=
  PTw (pt_cmpR op_ge ha hb (nomark _)) (w_tst (w_opS (ans_I0 fun _ _ _ => by unfold Rs; rfl) (scal_I0 fun _ _ => rfl) hm))
end
end Z

/-! Z4: more expressions. -/
namespace Z
open PySem PySem.Spec PyProof.Rows L2
section
variable {X : Cx} {c : Ctx} {W : XK} {mods m1 m2 m3 : List Nat} {md md1 md2 : Bool} {e a b : Expr} {pos : Pos} {ma mb : M D}

/-! ### data as the model compares them -/
mutual
def toPy : D → Option PyData
  | .non => some .none
  | .bl b => some (.bool b)
  | .int i => some (.int i)
  | .str x => some (.str x)
  | .lst ds => (toPyL ds).map .list
  | .tup ds => (toPyL ds).map .tuple
  | .dic _ _ => none
  | .obj _ _ _ => none
  | .fls _ => none
def toPyL : List D → Option (List PyData)
  | [] => some []
  | d :: ds => match toPy d, toPyL ds with
    | some p, some ps => some (p :: ps)
    | _, _ => none
end
mutual
theorem dp_of {E : Ev} {H : Hp} : ∀ {d : D} {v : V} {p : PyData}, Rs E H d v → toPy d = some p → Dp E.K H v p
  | .non, v, p, h, e => by
    unfold Rs at h; unfold toPy at e
    cases e; subst h; exact .non
  | .bl b, v, p, h, e => by
    unfold Rs at h; unfold toPy at e
    cases e; subst h; exact .bl b
  | .int b, v, p, h, e => by
    unfold Rs at h; unfold toPy at e
    cases e; subst h; exact .int b
  | .str b, v, p, h, e => by
    unfold Rs at h; unfold toPy at e
    cases e; subst h; exact .str b
  | .lst ds, v, p, h, e => by
    unfold Rs at h; unfold toPy at e
    obtain ⟨a, xs, rfl, h2, h3⟩ := h
    cases q : toPyL ds with
    | none => rw [q] at e; cases e
    | some ps => rw [q] at e; cases e; exact .lst (SqL.of h2) (dpL_of h3 q)
  | .tup ds, v, p, h, e => by
    unfold Rs at h; unfold toPy at e
    obtain ⟨a, xs, rfl, h2, h3⟩ := h
    cases q : toPyL ds with
    | none => rw [q] at e; cases e
    | some ps => rw [q] at e; cases e; exact .tup h2.sq (dpL_of h3 q)
  | .dic _ _, v, p, h, e => by unfold toPy at e; cases e
  | .obj _ _ _, v, p, h, e => by unfold toPy at e; cases e
  | .fls _, v, p, h, e => by unfold toPy at e; cases e
theorem dpL_of {E : Ev} {H : Hp} : ∀ {ds : List D} {vs : List V} {ps : List PyData}, RsL E H ds vs → toPyL ds = some ps → DpAll E.K H vs ps
  | [], vs, ps, h, e => by
    unfold RsL at h; unfold toPyL at e
    cases e; subst h; exact .nil
  | d :: ds, vs, ps, h, e => by
    unfold RsL at h; unfold toPyL at e
    obtain ⟨v, r, rfl, h2, h3⟩ := h
    cases q1 : toPy d with
    | none => rw [q1] at e; cases e
    | some p =>
      cases q2 : toPyL ds with
      | none => rw [q1, q2] at e; cases e
      | some qs => rw [q1, q2] at e; cases e; exact .cons (dp_of h2 q1) (dpL_of h3 q2)
end
/-- == as a bool, where the model can tell -/
def eqB (x y : D) : Option Bool := match toPy x, toPy y with
  | some p, some q => match SeqAt.shaped p && SeqAt.shaped q with
    | true => some (PyData.eqv p q)
    | false => none
  | _, _ => none
def dEq (x y : D) : Option D := (eqB x y).map D.bl
def dNe (x y : D) : Option D := (eqB x y).map fun b => D.bl (!b)
theorem eqB_some {x y : D} {b : Bool} (h : eqB x y = some b) : ∃ p q, toPy x = some p ∧ toPy y = some q ∧ SeqAt.shaped p = true ∧ SeqAt.shaped q = true ∧ b = PyData.eqv p q := by
  unfold eqB at h
  split at h
  · rename_i p q e1 e2
    split at h
    · rename_i hs
      rw [Bool.and_eq_true] at hs
      exact ⟨p, q, e1, e2, hs.1, hs.2, (Option.some.inj h).symm⟩
    · cases h
  · cases h
theorem ans_eq : Ans2 c (rEqD c.E.K) dEq := fun h H dx dy d x y Q e rx ry hf k => by
  obtain ⟨b, hb, rfl⟩ := Option.map_eq_some_iff.mp hf
  obtain ⟨p, q, e1, e2, s1, s2, rfl⟩ := eqB_some hb
  exact ⟨p, q, dp_of (Rs.mono e rx) e1, dp_of ry e2, s1, s2, k _ (by unfold Rs; rfl)⟩
theorem ans_ne : Ans2 c (rNeD c.E.K) dNe := fun h H dx dy d x y Q e rx ry hf k => by
  obtain ⟨b, hb, rfl⟩ := Option.map_eq_some_iff.mp hf
  obtain ⟨p, q, e1, e2, s1, s2, rfl⟩ := eqB_some hb
  exact ⟨p, q, dp_of (Rs.mono e rx) e1, dp_of ry e2, s1, s2, k _ (by unfold Rs; rfl)⟩
theorem scal_eq : Scal2 dEq := fun x y d hf => by
  obtain ⟨b, hb, rfl⟩ := Option.map_eq_some_iff.mp hf
  rfl
theorem scal_ne : Scal2 dNe := fun x y d hf => by
  obtain ⟨b, hb, rfl⟩ := Option.map_eq_some_iff.mp hf
  rfl
theorem zEq (hK : c.E.K = X.K) (hu : X.A.units + 64 < cLine) (ha : PE X a (tE c W md1 m1 ma)) (hb : PE X b (tE c W md2 m2 mb)) (hm : (md1 || m2.isEmpty) = true := by rfl) : PE X (.Compare a [.Eq] [b] pos) (tE c W true (m1 ++ m2) (m2x dEq ma mb)) :=
  PEw (pe_cmpR (op_eqD hu) ha hb (nomark _)) (w_opS (hK ▸ ans_eq) scal_eq hm)
theorem zNe (hK : c.E.K = X.K) (hu : X.A.units + 64 < cLine) (ha : PE X a (tE c W md1 m1 ma)) (hb : PE X b (tE c W md2 m2 mb)) (hm : (md1 || m2.isEmpty) = true := by rfl) : PE X (.Compare a [.NotEq] [b] pos) (tE c W true (m1 ++ m2) (m2x dNe ma mb)) :=
  PEw (pe_cmpR (op_neD hu) ha hb (nomark _)) (w_opS (hK ▸ ans_ne) scal_ne hm)
theorem yEq (hK : c.E.K = X.K) (hu : X.A.units + 64 < cLine) (ha : PE X a (tE c W md1 m1 ma)) (hb : PE X b (tE c W md2 m2 mb)) (hm : (md1 || m2.isEmpty) = true := by rfl) : PT X (.Compare a [.Eq] [b] pos) (tT c W (m1 ++ m2) (mTst (m2x dEq ma mb))) :=
  PTw (pt_cmpR (op_eqD hu) ha hb (nomark _)) (w_tst (w_opS (hK ▸ ans_eq) scal_eq hm))
theorem yNe (hK : c.E.K = X.K) (hu : X.A.units + 64 < cLine) (ha : PE X a (tE c W md1 m1 ma)) (hb : PE X b (tE c W md2 m2 mb)) (hm : (md1 || m2.isEmpty) = true := by rfl) : PT X (.Compare a [.NotEq] [b] pos) (tT c W (m1 ++ m2) (mTst (m2x dNe ma mb))) :=
  PTw (pt_cmpR (op_neD hu) ha hb (nomark _)) (w_tst (w_opS (hK ▸ ans_ne) scal_ne hm))

/-! ### in, of scalars -/
def eqS : D → D → Bool
  | .non, .non => true
  | .bl a, .bl b => a == b
  | .bl a, .int b => (if a then 1 else 0) == b
  | .int a, .bl b => a == (if b then 1 else 0)
  | .int a, .int b => a == b
  | .str a, .str b => a == b
  | _, _ => false
def sv : D → V
  | .bl b => .bl b
  | .int i => .int i
  | .str x => .str x
  | _ => .non
theorem rs_sv {E : Ev} {H : Hp} {d : D} {v : V} (s : isScal d = true) (h : Rs E H d v) : v = sv d := by
  cases d <;> first | (unfold Rs at h; exact h) | cases s
theorem sv_flat {d : D} (s : isScal d = true) : flatV (sv d) = true := by
  cases d <;> first | rfl | cases s
theorem eqV_sv {x y : D} (hx : isScal x = true) (hy : isScal y = true) : eqV (sv x) (sv y) = eqS x y := by
  cases x <;> first | exact absurd hx Bool.false_ne_true | (cases y <;> first | exact absurd hy Bool.false_ne_true | rfl)
theorem rsL_sv {E : Ev} {H : Hp} : ∀ {ds : List D} {vs : List V}, RsL E H ds vs → ds.all isScal = true → vs = ds.map sv
  | [], vs, h, _ => by
    unfold RsL at h
    exact h
  | d :: ds, vs, h, s => by
    unfold RsL at h
    obtain ⟨v, r, rfl, h2, h3⟩ := h
    rw [List.all_cons, Bool.and_eq_true] at s
    rw [rs_sv s.1 h2, rsL_sv h3 s.2]
    rfl
theorem sv_rs {E : Ev} {H : Hp} {d : D} (s : isScal d = true) : Rs E H d (sv d) := by
  cases d <;> first | (unfold Rs; rfl) | cases s
theorem sv_rsL {E : Ev} {H : Hp} : ∀ {ds : List D}, ds.all isScal = true → RsL E H ds (ds.map sv)
  | [], _ => .nil
  | d :: ds, s => by
    rw [List.all_cons, Bool.and_eq_true] at s
    exact .cons (sv_rs s.1) (sv_rsL s.2)
theorem sv_allflat {ds : List D} (s : ds.all isScal = true) : (ds.map sv).all flatV = true := by
  rw [List.all_map, List.all_eq_true]
  intro d hd
  exact sv_flat (List.all_eq_true.mp s d hd)
theorem inV_sv {x : D} (hx : isScal x = true) : ∀ {ds : List D}, ds.all isScal = true → inV (sv x) (ds.map sv) = ds.any fun y => eqS y x
  | [], _ => rfl
  | d :: ds, s => by
    rw [List.all_cons, Bool.and_eq_true] at s
    show (eqV (sv d) (sv x) || inV (sv x) (ds.map sv)) = _
    rw [eqV_sv s.1 hx, inV_sv hx s.2]
    rfl
def inB (x : D) : D → Option Bool
  | .lst ds => match isScal x && ds.all isScal with
    | true => some (ds.any fun y => eqS y x)
    | false => none
  | .tup ds => match isScal x && ds.all isScal with
    | true => some (ds.any fun y => eqS y x)
    | false => none
  | _ => none
def dIn (x y : D) : Option D := (inB x y).map D.bl
def dNi (x y : D) : Option D := (inB x y).map fun b => D.bl (!b)
theorem scal_in : Scal2 dIn := fun x y d hf => by
  obtain ⟨b, hb, rfl⟩ := Option.map_eq_some_iff.mp hf
  rfl
theorem scal_ni : Scal2 dNi := fun x y d hf => by
  obtain ⟨b, hb, rfl⟩ := Option.map_eq_some_iff.mp hf
  rfl
theorem inB_some {E : Ev} {H : Hp} {x y : D} {u v : V} {b : Bool} (hf : inB x y = some b) (rx : Rs E H x v) (ry : Rs E H y u) : ∃ p xs, u = .ref p ∧ (SqL E.K H p xs ∨ SqT E.K H p xs) ∧ flatV v = true ∧ xs.all flatV = true ∧ inV v xs = b := by
  cases y with
  | lst ds =>
    unfold inB at hf
    cases hs : isScal x && ds.all isScal with
    | false => simp only [hs] at hf; cases hf
    | true =>
      simp only [hs] at hf
      rw [Bool.and_eq_true] at hs
      unfold Rs at ry
      obtain ⟨p, xs, rfl, h2, h3⟩ := ry
      have e1 := rsL_sv h3 hs.2
      have e2 := rs_sv hs.1 rx
      subst e1 e2
      exact ⟨p, _, rfl, .inl (SqL.of h2), sv_flat hs.1, sv_allflat hs.2, (inV_sv hs.1 hs.2).trans (Option.some.inj hf)⟩
  | tup ds =>
    unfold inB at hf
    cases hs : isScal x && ds.all isScal with
    | false => simp only [hs] at hf; cases hf
    | true =>
      simp only [hs] at hf
      rw [Bool.and_eq_true] at hs
      unfold Rs at ry
      obtain ⟨p, xs, rfl, h2, h3⟩ := ry
      have e1 := rsL_sv h3 hs.2
      have e2 := rs_sv hs.1 rx
      subst e1 e2
      exact ⟨p, _, rfl, .inr h2.sq, sv_flat hs.1, sv_allflat hs.2, (inV_sv hs.1 hs.2).trans (Option.some.inj hf)⟩
  | _ => cases hf
theorem ans_in : Ans2 c (rIn c.E.K false) dIn := fun h H dx dy d x y Q e rx ry hf k => by
  obtain ⟨b, hb, rfl⟩ := Option.map_eq_some_iff.mp hf
  obtain ⟨p, xs, rfl, h2, h3, h4, rfl⟩ := inB_some hb (Rs.mono e rx) ry
  exact ⟨p, xs, rfl, h2, h3, h4, k _ (by unfold Rs; rfl)⟩
theorem ans_ni : Ans2 c (rIn c.E.K true) dNi := fun h H dx dy d x y Q e rx ry hf k => by
  obtain ⟨b, hb, rfl⟩ := Option.map_eq_some_iff.mp hf
  obtain ⟨p, xs, rfl, h2, h3, h4, rfl⟩ := inB_some hb (Rs.mono e rx) ry
  exact ⟨p, xs, rfl, h2, h3, h4, k _ (by unfold Rs; rfl)⟩
theorem zIn (hK : c.E.K = X.K) (ha : PE X a (tE c W md1 m1 ma)) (hb : PE X b (tE c W md2 m2 mb)) (hm : (md1 || m2.isEmpty) = true := by rfl) (hk : behindInMarks .In b = false := by rfl) : PE X (.Compare a [.In] [b] pos) (tE c W true (m1 ++ m2) (m2x dIn ma mb)) :=
  PEw (pe_cmpR op_in_seq ha hb hk) (w_opS (hK ▸ ans_in) scal_in hm)
theorem zNi (hK : c.E.K = X.K) (ha : PE X a (tE c W md1 m1 ma)) (hb : PE X b (tE c W md2 m2 mb)) (hm : (md1 || m2.isEmpty) = true := by rfl) (hk : behindInMarks .NotIn b = false := by rfl) : PE X (.Compare a [.NotIn] [b] pos) (tE c W true (m1 ++ m2) (m2x dNi ma mb)) :=
  PEw (pe_cmpR op_notIn_seq ha hb hk) (w_opS (hK ▸ ans_ni) scal_ni hm)
theorem yIn (hK : c.E.K = X.K) (ha : PE X a (tE c W md1 m1 ma)) (hb : PE X b (tE c W md2 m2 mb)) (hm : (md1 || m2.isEmpty) = true := by rfl) (hk : behindInMarks .In b = false := by rfl) : PT X (.Compare a [.In] [b] pos) (tT c W (m1 ++ m2) (mTst (m2x dIn ma mb))) :=
  PTw (pt_cmpR op_in_seq ha hb hk) (w_tst (w_opS (hK ▸ ans_in) scal_in hm))
theorem yNi (hK : c.E.K = X.K) (ha : PE X a (tE c W md1 m1 ma)) (hb : PE X b (tE c W md2 m2 mb)) (hm : (md1 || m2.isEmpty) = true := by rfl) (hk : behindInMarks .NotIn b = false := by rfl) : PT X (.Compare a [.NotIn] [b] pos) (tT c W (m1 ++ m2) (mTst (m2x dNi ma mb))) :=
  PTw (pt_cmpR op_notIn_seq ha hb hk) (w_tst (w_opS (hK ▸ ans_ni) scal_ni hm))

/-! ### items -/
def dIx : D → D → Option D
  | .lst ds, .int i => atI ds i
  | .tup ds, .int i => atI ds i
  | _, _ => none
theorem rs_atI {E : Ev} {H : Hp} {ds : List D} {vs : List V} {i : Int} {d : D} (h : RsL E H ds vs) (e : atI ds i = some d) : ∃ v, atI vs i = some v ∧ Rs E H d v := by
  unfold atI at e ⊢
  rw [← RsL.length h]
  cases q : ixN ds.length i with
  | none => rw [q] at e; cases e
  | some j =>
    rw [q] at e
    exact RsL.get h e
theorem ans_ix : Ans2 c (fun x y H Q => rIxL c.E.K x y H Q ∨ rIxT c.E.K x y H Q) dIx := fun h H dx dy d x y Q e rx ry hf k => by
  unfold dIx at hf
  split at hf
  · rename_i ds i
    unfold Rs at rx ry
    obtain ⟨p, xs, rfl, h2, h3⟩ := rx
    obtain ⟨v, h4, h5⟩ := rs_atI h3 hf
    exact .inl ⟨p, xs, i, v, rfl, ry, SqL.of (e.hard h2 rfl), h4, k v h5⟩
  · rename_i ds i
    unfold Rs at rx ry
    obtain ⟨p, xs, rfl, h2, h3⟩ := rx
    obtain ⟨v, h4, h5⟩ := rs_atI h3 hf
    exact .inr ⟨p, xs, i, v, rfl, ry, e.seqt h2.sq, h4, k v h5⟩
  · cases hf
theorem zIx (hK : c.E.K = X.K) (ha : PE X a (tE c W md1 m1 ma)) (hb : PE X b (tE c W md2 m2 mb)) (hm : (md1 || m2.isEmpty) = true := by rfl) (hs : PlainIx b := by exact fun _ _ => rfl) : PE X (.Subscript a b pos) (tE c W md1 (m1 ++ m2) (m2x dIx ma mb)) :=
  PEw (pe_ix (ix_list.or ix_tup) ha hb hs) (w_op (hK ▸ ans_ix) hm)

/-! ### truth -/
def mAnd (a b : M Bool) : M Bool := fun S => (a S).bd fun x S1 => match x with
  | true => b S1
  | false => .ok false S1
def mOr (a b : M Bool) : M Bool := fun S => (a S).bd fun x S1 => match x with
  | true => .ok true S1
  | false => b S1
def mNot (a : M Bool) : M Bool := fun S => (a S).bd fun x S1 => .ok (!x) S1
def mIf {α : Type} (t : M Bool) (a b : M α) : M α := fun S => (t S).bd fun x S1 => match x with
  | true => a S1
  | false => b S1
variable {ta tb : M Bool} {rest : List Expr}
theorem tT_trans {c : Ctx} {W : XK} {G G1 : Hp} {S S1 : List Sl} {As As1 : Nat → List Addr} {τ : List V} {σ : L2.St} {H H1 : Hp} {Q : Bool → Hp → Prop} {m : M Bool} {x : Out Bool}
    (R1 : Real c G1 S1 As1 τ σ H1) (P1 : Post m1 S S1 As As1 G G1 H H1) (k : fin c W (m S1) fun b S' => ∀ G' As' H', Real c G' S' As' τ σ H' → Post (m1 ++ m2) S S' As As' G G' H H' → Q b H') : tT c W m2 m σ H1 Q :=
  ⟨G1, S1, As1, τ, R1, fin_mono k fun b S2 e k2 G' As' H' R' P' => k2 G' As' H' R' (P1.trans P')⟩
theorem w_and (σ : L2.St) (H : Hp) (Q : Bool → Hp → Prop) (h : tT c W (m1 ++ m2) (mAnd ta tb) σ H Q) : tAnd (tT c W m1 ta) (tT c W m2 tb) σ H Q := by
  obtain ⟨G, S, As, τ, R, q⟩ := h
  refine ⟨G, S, As, τ, R, fin_mono (fin_bd q) fun x S1 e1 k => ?_⟩
  intro G1 As1 H1 R1 P1
  cases x with
  | true =>
    rw [if_pos rfl]
    exact tT_trans (x := .bad) R1 P1 k
  | false =>
    rw [if_neg Bool.false_ne_true]
    exact k G1 As1 H1 R1 (P1.mono fun j hj => List.mem_append_left _ hj)
theorem w_or (σ : L2.St) (H : Hp) (Q : Bool → Hp → Prop) (h : tT c W (m1 ++ m2) (mOr ta tb) σ H Q) : tOr (tT c W m1 ta) (tT c W m2 tb) σ H Q := by
  obtain ⟨G, S, As, τ, R, q⟩ := h
  refine ⟨G, S, As, τ, R, fin_mono (fin_bd q) fun x S1 e1 k => ?_⟩
  intro G1 As1 H1 R1 P1
  cases x with
  | true =>
    rw [if_pos rfl]
    exact k G1 As1 H1 R1 (P1.mono fun j hj => List.mem_append_left _ hj)
  | false =>
    rw [if_neg Bool.false_ne_true]
    exact tT_trans (x := .bad) R1 P1 k
theorem w_not (σ : L2.St) (H : Hp) (Q : Bool → Hp → Prop) (h : tT c W mods (mNot ta) σ H Q) : tNot (tT c W mods ta) σ H Q := by
  obtain ⟨G, S, As, τ, R, q⟩ := h
  exact ⟨G, S, As, τ, R, fin_mono (fin_bd q) fun x S1 e1 k => k⟩
theorem yAnd1 (ha : PT X a (tT c W m1 ta)) : PW X (.BoolOp .And [a] pos) (tT c W m1 ta) := pw_and1 ha
theorem yOr1 (ha : PT X a (tT c W m1 ta)) : PW X (.BoolOp .Or [a] pos) (tT c W m1 ta) := pw_or1 ha
theorem yAnd (ha : PT X a (tT c W m1 ta)) (hb : PW X (.BoolOp .And (b :: rest) pos) (tT c W m2 tb)) : PW X (.BoolOp .And (a :: b :: rest) pos) (tT c W (m1 ++ m2) (mAnd ta tb)) := PWw (pw_and ha hb) w_and
theorem yOr (ha : PT X a (tT c W m1 ta)) (hb : PW X (.BoolOp .Or (b :: rest) pos) (tT c W m2 tb)) : PW X (.BoolOp .Or (a :: b :: rest) pos) (tT c W (m1 ++ m2) (mOr ta tb)) := PWw (pw_or ha hb) w_or
theorem yNot (ha : PT X a (tT c W m1 ta)) : PT X (.UnaryOp .Not a pos) (tT c W m1 (mNot ta)) := PTw (pt_not ha) w_not
/-- an answer True or False as a test -/
theorem yVal (h : PE X e (tE c W md mods ma)) (he : ∀ whole, isTrue e X.env whole = (do let v ← whole; standAt e.pos; holding [v] (truthy v)) := by intro _; rfl) : PT X e (tT c W mods (mTst ma)) :=
  PTw (pt_val h he) fun σ H Q ⟨G, S, As, τ, R, q⟩ => by
    refine ⟨G, S, As, τ, R, fin_mono (fin_bd q) fun d S1 e1 k => ?_⟩
    intro v G' As' H' R' P r
    cases d with
    | bl b =>
      unfold Rs at r
      exact ⟨b, r, k G' As' H' R' P⟩
    | _ => exact k.elim
/-- and, or, not as values: bools -/
def mBl (t : M Bool) : M D := fun S => (t S).bd fun b S => .ok (.bl b) S
theorem zAnd1 {op : BoolOp} (ha : PE X a (tE c W md m1 ma)) : PE X (.BoolOp op [a] pos) (tE c W md m1 ma) := pe_one ha
theorem zAndV (ha : PE X a (tE c W md1 m1 ma)) (hb : PE X (.BoolOp .And (b :: rest) pos) (tE c W md2 m2 mb)) : PE X (.BoolOp .And (a :: b :: rest) pos) (tE c W true (m1 ++ m2) (mBl (mAnd (mTst ma) (mTst mb)))) :=
  PEw (pe_and ha hb) fun σ H Q ⟨G, S, As, τ, R, q⟩ => by
    refine ⟨G, S, As, τ, R, fin_mono (fin_bd (fin_bd (fin_bd q))) fun d S1 e1 k => ?_⟩
    intro v G1 As1 H1 R1 P1 r1
    cases d with
    | bl x =>
      unfold Rs at r1
      refine ⟨x, r1, ?_⟩
      cases x with
      | true =>
        have k1 : fin c W (mTst mb S1) _ := k
        rw [if_pos rfl]
        refine ⟨G1, S1, As1, τ, R1, fin_mono (fin_bd k1) fun d2 S2 e2 k2 => ?_⟩
        intro u G2 As2 H2 R2 P2 r2
        cases d2 with
        | bl y => exact k2 u G2 As2 H2 R2 (P1.trans P2) (scal_any rfl r2)
        | _ => exact k2.elim
      | false =>
        rw [if_neg Bool.false_ne_true]
        exact k _ G1 As1 H1 R1 (P1.mono fun j hj => List.mem_append_left _ hj) (by unfold Rs; rfl)
    | _ => exact k.elim
theorem zOrV (ha : PE X a (tE c W md1 m1 ma)) (hb : PE X (.BoolOp .Or (b :: rest) pos) (tE c W md2 m2 mb)) : PE X (.BoolOp .Or (a :: b :: rest) pos) (tE c W true (m1 ++ m2) (mBl (mOr (mTst ma) (mTst mb)))) :=
  PEw (pe_or ha hb) fun σ H Q ⟨G, S, As, τ, R, q⟩ => by
    refine ⟨G, S, As, τ, R, fin_mono (fin_bd (fin_bd (fin_bd q))) fun d S1 e1 k => ?_⟩
    intro v G1 As1 H1 R1 P1 r1
    cases d with
    | bl x =>
      unfold Rs at r1
      refine ⟨x, r1, ?_⟩
      cases x with
      | false =>
        have k1 : fin c W (mTst mb S1) _ := k
        rw [if_neg Bool.false_ne_true]
        refine ⟨G1, S1, As1, τ, R1, fin_mono (fin_bd k1) fun d2 S2 e2 k2 => ?_⟩
        intro u G2 As2 H2 R2 P2 r2
        cases d2 with
        | bl y => exact k2 u G2 As2 H2 R2 (P1.trans P2) (scal_any rfl r2)
        | _ => exact k2.elim
      | true =>
        rw [if_pos rfl]
        exact k _ G1 As1 H1 R1 (P1.mono fun j hj => List.mem_append_left _ hj) (by unfold Rs; rfl)
    | _ => exact k.elim
theorem zNotV (ha : PE X a (tE c W md1 m1 ma)) : PE X (.UnaryOp .Not a pos) (tE c W true m1 (mBl (mNot (mTst ma)))) :=
  PEw (pe_not ha) fun σ H Q ⟨G, S, As, τ, R, q⟩ => by
    refine ⟨G, S, As, τ, R, fin_mono (fin_bd (fin_bd (fin_bd q))) fun d S1 e1 k => ?_⟩
    intro v G1 As1 H1 R1 P1 r1
    cases d with
    | bl x =>
      unfold Rs at r1
      exact ⟨x, r1, k _ G1 As1 H1 R1 P1 (by unfold Rs; rfl)⟩
    | _ => exact k.elim
theorem w_ifD {tc : M Bool} {m1 m2 m3 : List Nat} (σ : L2.St) (H : Hp) (Q : VK) (h : tE c W md (m1 ++ (m2 ++ m3)) (mIf tc ma mb) σ H Q) : tIf (tT c W m1 tc) (tE c W md m2 ma) (tE c W md m3 mb) σ H Q := by
  obtain ⟨G, S, As, τ, R, q⟩ := h
  refine ⟨G, S, As, τ, R, fin_mono (fin_bd q) fun x S1 e1 k => ?_⟩
  intro G1 As1 H1 R1 P1
  cases x with
  | true =>
    rw [if_pos rfl]
    exact ⟨G1, S1, As1, τ, R1, fin_mono k fun d S2 e k2 v G' As' H' R' P' r => k2 v G' As' H' R' (P1.trans (P'.mono fun j hj => List.mem_append_left _ hj)) r⟩
  | false =>
    rw [if_neg Bool.false_ne_true]
    exact ⟨G1, S1, As1, τ, R1, fin_mono k fun d S2 e k2 v G' As' H' R' P' r => k2 v G' As' H' R' (P1.trans (P'.mono fun j hj => List.mem_append_right _ hj)) r⟩
theorem zIfE {tc : M Bool} {t : Expr} (ht : PT X t (tT c W m1 tc)) (ha : PE X a (tE c W md m2 ma)) (hb : PE X b (tE c W md m3 mb)) : PE X (.IfExp t a b pos) (tE c W md (m1 ++ (m2 ++ m3)) (mIf tc ma mb)) := PEw (pe_ifExp ht ha hb) w_ifD
theorem Frs.mono {As : Nat → List Addr} {H : Hp} {A : List Addr} (f : Frs m1 As H A) (h : ∀ j ∈ m1, j ∈ m2) : Frs m2 As H A := fun a ha => (f a ha).imp id fun ⟨k, hk, z⟩ => ⟨k, h k hk, z⟩
theorem Frs.later {S S1 : List Sl} {As As1 : Nat → List Addr} {G G1 H H1 : Hp} {A : List Addr} (P : Post m1 S S1 As As1 G G1 H H1) (f : Frs m2 As1 H1 A) : Frs (m1 ++ m2) As H A := fun a ha => by
  rcases f a ha with z | ⟨k, hk, z⟩
  · left
    cases e : H a with
    | none => rfl
    | some o => exact absurd z (P.stay a (by rw [e]; exact fun z => nomatch z))
  · rcases P.new k a z with q | ⟨k', hk', q⟩ | q
    · exact .inr ⟨k, List.mem_append_right _ hk, q⟩
    · exact .inr ⟨k', List.mem_append_left _ hk', q⟩
    · exact .inl q
theorem Frs.one {S S1 : List Sl} {As As1 : Nat → List Addr} {G G1 H H1 : Hp} {p : Addr} (P : Post mods S S1 As As1 G G1 H H1) (h : H1 p = none) : Frs mods As H [p] := fun a ha => by
  obtain rfl : a = p := by simpa using ha
  left
  cases e : H a with
  | none => rfl
  | some o => exact absurd h (P.stay a (by rw [e]; exact fun z => nomatch z))
theorem zIfO {tc : M Bool} {t : Expr} {ma mb : M O} (ht : PT X t (tT c W m1 tc)) (ha : PE X a (tO c W m2 ma)) (hb : PE X b (tO c W m3 mb)) : PE X (.IfExp t a b pos) (tO c W (m1 ++ (m2 ++ m3)) (mIf tc ma mb)) :=
  PEw (pe_ifExp ht ha hb) fun σ H Q ⟨G, S, As, τ, R, q⟩ => by
    refine ⟨G, S, As, τ, R, fin_mono (fin_bd q) fun x S1 e1 k => ?_⟩
    intro G1 As1 H1 R1 P1
    cases x with
    | true =>
      rw [if_pos rfl]
      exact ⟨G1, S1, As1, τ, R1, fin_mono k fun d S2 e k2 v A G' As' H' R' P' r N F => k2 v A G' As' H' R' (P1.trans (P'.mono fun j hj => List.mem_append_left _ hj)) r N (Frs.later P1 (Frs.mono F fun j hj => List.mem_append_left _ hj))⟩
    | false =>
      rw [if_neg Bool.false_ne_true]
      exact ⟨G1, S1, As1, τ, R1, fin_mono k fun d S2 e k2 v A G' As' H' R' P' r N F => k2 v A G' As' H' R' (P1.trans (P'.mono fun j hj => List.mem_append_right _ hj)) r N (Frs.later P1 (Frs.mono F fun j hj => List.mem_append_right _ hj))⟩

/-! ### arguments, all of one mode -/
def tA (c : Ctx) (X : XK) (md : Bool) (mods : List Nat) (m : M (List D)) : TA := fun σ H Q => ∃ G S As τ, Real c G S As τ σ H ∧ fin c X (m S) fun ds S' =>
  ∀ vs G' As' H', Real c G' S' As' τ σ H' → Post mods S S' As As' G G' H H' → RsL c.E (hp md G' H') ds vs → Q vs H'
def mCons {α : Type} (a : M α) (r : M (List α)) : M (List α) := fun S => (a S).bd fun x S1 => (r S1).bd fun xs S2 => .ok (x :: xs) S2
theorem PAw {es : List Expr} {t t' : TA} (h : PA X es t) (w : ∀ σ H Q, t' σ H Q → t σ H Q) : PA X es t' := ⟨fun p pins s σ H Q I q => h.run p pins s σ H Q I (w σ H Q q)⟩
theorem zNil : PA X [] (tA c W md [] (mC [])) := PAw pa_nil fun σ H Q ⟨G, S, As, τ, R, q⟩ => q [] G As H R Post.refl .nil
theorem zCons {es : List Expr} {mr : M (List D)} (ha : PE X e (tE c W md m1 ma)) (hr : PA X es (tA c W md m2 mr)) (hm : (md || m2.isEmpty) = true := by rfl) (hs : starEach (e :: es) X.env = (false, eval e X.env) :: starEach es X.env := by rfl) :
    PA X (e :: es) (tA c W md (m1 ++ m2) (mCons ma mr)) := PAw (pa_cons ha hr hs) fun σ H Q ⟨G, S, As, τ, R, q⟩ => by
  refine ⟨G, S, As, τ, R, fin_mono (fin_bd q) fun d S1 e1 k => ?_⟩
  intro v G1 As1 H1 R1 P1 r1
  refine ⟨G1, S1, As1, τ, R1, fin_mono (fin_bd k) fun ds S2 e2 k2 => ?_⟩
  intro vs G2 As2 H2 R2 P2 r2
  exact k2 (v :: vs) G2 As2 H2 R2 (P1.trans P2) (.cons (rs_later hm P2 r1) r2)
/-- r answers f by a scalar -/
def AnsL (c : Ctx) (r : List V → Hp → VK → Prop) (f : List D → Option D) : Prop := ∀ (H : Hp) (ds : List D) (d : D) (vs : List V) (Q : VK), RsL c.E H ds vs → f ds = some d → isScal d = true ∧ ((∀ v, Rs c.E H d v → Q v H) → r vs H Q)
theorem w_cb {r : List V → Hp → VK → Prop} {f : List D → Option D} {m : M (List D)} (hr : AnsL c r f) (σ : L2.St) (H : Hp) (Q : VK) (h : tE c W true mods (m1x f m) σ H Q) : tCB r (tA c W md mods m) σ H Q := by
  obtain ⟨G, S, As, τ, R, q⟩ := h
  refine ⟨G, S, As, τ, R, fin_mono (fin_bd q) fun ds S1 e1 k => ?_⟩
  intro vs G1 As1 H1 R1 P1 r1
  cases hf : f ds with
  | none =>
    rw [hf] at k
    exact k.elim
  | some d =>
    rw [hf] at k
    obtain ⟨h1, h2⟩ := hr H1 ds d vs Q (RsL.mono (hp_ex R1.exG) r1) hf
    exact h2 fun w hw => k w G1 As1 H1 R1 P1 (scal_any h1 hw)
/-- the items of a new list -/
def mkL (md : Bool) (ds : List D) : Option O := match md || ds.all isScal with
  | true => some (.lst (ds.map .sh))
  | false => none
theorem rsL_any {E : Ev} {H H' : Hp} {ds : List D} {vs : List V} (s : ds.all isScal = true) (h : RsL E H ds vs) : RsL E H' ds vs := by
  rw [rsL_sv h s]
  exact sv_rsL s
/-- r gives a new list of f's items -/
def AnsN (c : Ctx) (r : List V → Hp → VK → Prop) (f : List D → Option (List D)) : Prop := ∀ (h H : Hp) (ds es : List D) (vs : List V) (Q : VK), Ex h H → RsL c.E h ds vs → f ds = some es →
  (∀ p xs, H p = none → RsL c.E h es xs → Q (.ref p) (upd H p (.lst xs))) → r vs H Q
theorem new_list {G G1 H1 H0 : Hp} {S S1 : List Sl} {As As1 : Nat → List Addr} {τ : List V} {σ : L2.St} {es : List D} {xs : List V} {p : Addr} {o : O} {Q : VK} (R1 : Real c G1 S1 As1 τ σ H1) (P1 : Post mods S S1 As As1 G G1 H0 H1) (hp0 : H1 p = none)
    (r : RsL c.E (hp md G1 H1) es xs) (ho : mkL md es = some o)
    (k : ∀ v A G' As' H', Real c G' S1 As' τ σ H' → Post mods S S1 As As' G G' H0 H' → Ro c.E G' H' o v A → New c G' As' A → Frs mods As H0 A → Q v H') : Q (.ref p) (upd H1 p (.lst xs)) := by
  have r' : RsL c.E G1 es xs ∧ o = .lst (es.map .sh) := by
    unfold mkL at ho
    cases md with
    | true => exact ⟨r, (Option.some.inj ho).symm⟩
    | false =>
      cases hs : es.all isScal with
      | false => rw [hs] at ho; cases ho
      | true => rw [hs] at ho; exact ⟨rsL_any hs r, (Option.some.inj ho).symm⟩
  obtain ⟨r', rfl⟩ := r'
  have R2 := R1.keep (Keep.new (o := .lst xs) hp0)
  refine k (.ref p) [p] G1 As1 _ R2 ?_ ?_ (R1.new1 hp0) (Frs.one P1 hp0)
  · have P2 : Post mods S1 S1 As1 As1 G1 G1 H1 (upd H1 p (.lst xs)) := Post.of_keep (Ex.refl _) (Keep.new hp0) fun _ _ => rfl
    exact (P1.trans P2).mono fun j hj => (List.mem_append.mp hj).elim id id
  · unfold Ro
    exact ⟨p, xs, [], rfl, rfl, upd_same, RoL.sh r'⟩
theorem w_cbN {r : List V → Hp → VK → Prop} {f : List D → Option (List D)} {m : M (List D)} (hr : AnsN c r f) (σ : L2.St) (H : Hp) (Q : VK) (h : tO c W mods (m1x (fun ds => (f ds).bind (mkL md)) m) σ H Q) : tCB r (tA c W md mods m) σ H Q := by
  obtain ⟨G, S, As, τ, R, q⟩ := h
  refine ⟨G, S, As, τ, R, fin_mono (fin_bd q) fun ds S1 e1 k => ?_⟩
  intro vs G1 As1 H1 R1 P1 r1
  have k' : fin c W (oo ((f ds).bind (mkL md)) S1) _ := k
  cases hf : f ds with
  | none =>
    rw [hf] at k'
    exact k'.elim
  | some es =>
    rw [hf, Option.bind_some] at k'
    cases ho : mkL md es with
    | none =>
      rw [ho] at k'
      exact k'.elim
    | some o =>
      rw [ho] at k'
      exact hr (hp md G1 H1) H1 ds es vs Q (hp_ex R1.exG) r1 hf fun p xs hp0 rx => new_list R1 P1 hp0 rx ho k'
/-! lists, tuples as displayed, their items shared -/
def dLst (ds : List D) : Option O := match decide (ds.length ≤ sizeLine) with
  | true => some (.lst (ds.map .sh))
  | false => none
def dTup (ds : List D) : Option O := match decide (ds.length ≤ sizeLine) with
  | true => some (.tup (ds.map .sh))
  | false => none
theorem zLst {es : List Expr} {m : M (List D)} (h : PA X es (tA c W true mods m)) : PE X (.List es pos) (tO c W mods (m1x dLst m)) := PEw (pe_lst h) fun σ H Q ⟨G, S, As, τ, R, q⟩ => by
  refine ⟨G, S, As, τ, R, fin_mono (fin_bd q) fun ds S1 e1 k => ?_⟩
  intro vs G1 As1 H1 R1 P1 r1
  unfold dLst at k
  cases hl : decide (ds.length ≤ sizeLine) with
  | false =>
    rw [hl] at k
    exact k.elim
  | true =>
    rw [hl] at k
    refine ⟨by rw [← RsL.length r1]; exact of_decide_eq_true hl, fun p hp0 => ?_⟩
    exact new_list (md := true) R1 P1 hp0 r1 rfl k
theorem zTup {es : List Expr} {m : M (List D)} {x1 : Nat} (h : PA X es (tA c W true mods m)) : PE X (.Tuple es x1 pos) (tO c W mods (m1x dTup m)) := PEw (pe_tup h) fun σ H Q ⟨G, S, As, τ, R, q⟩ => by
  refine ⟨G, S, As, τ, R, fin_mono (fin_bd q) fun ds S1 e1 k => ?_⟩
  intro vs G1 As1 H1 R1 P1 r1
  unfold dTup at k
  cases hl : decide (ds.length ≤ sizeLine) with
  | false =>
    rw [hl] at k
    exact k.elim
  | true =>
    rw [hl] at k
    refine ⟨by rw [← RsL.length r1]; exact of_decide_eq_true hl, fun p hp0 => ?_⟩
    have R2 := R1.keep (Keep.new (o := .tup vs) hp0)
    refine k (.ref p) [p] G1 As1 _ R2 ?_ ?_ (R1.new1 hp0) (Frs.one P1 hp0)
    · have P2 : Post mods S1 S1 As1 As1 G1 G1 H1 (upd H1 p (.tup vs)) := Post.of_keep (Ex.refl _) (Keep.new hp0) fun _ _ => rfl
      exact (P1.trans P2).mono fun j hj => (List.mem_append.mp hj).elim id id
    · unfold Ro
      exact ⟨p, vs, [], rfl, rfl, upd_same, RoL.sh r1⟩
end
end Z

/-! Z5: statements, loops, comprehensions. -/
namespace Z
open PySem PySem.Spec PyProof.Rows L2

inductive OutS where
  | next (S : List Sl) | ret (o : O) (S : List Sl) | brk (S : List Sl) | cont (S : List Sl)
  | exc (C : Str) (fs : List Str) (ds : List D) (S : List Sl) | bad
abbrev MS := List Sl → OutS
def okS (c : Ctx) (X : XK) (Dn : Ends) : OutS → Prop
  | .next S => ∀ G As σ H, Real c G S As [] σ H → Dn.nx σ H
  | .brk S => ∀ G As σ H, Real c G S As [] σ H → Dn.bk σ H
  | .cont S => ∀ G As σ H, Real c G S As [] σ H → Dn.ct σ H
  | .ret o S => ∀ v A G As τ σ H, Real c G S As τ σ H → Ro c.E G H o v A → New c G As A → Dn.rt v H
  | .exc C fs ds S => ∀ G As τ σ H dd, Real c G S As τ σ H → ExcAt c.E G H fs ds dd → X (.ref (c.E.ca C)) dd H
  | .bad => False
def tS (c : Ctx) (X : XK) (m : MS) : TS := fun Dn σ H => ∃ G S As, Real c G S As [] σ H ∧ okS c X Dn (m S)
def Out.sd {α : Type} (x : Out α) (k : α → List Sl → OutS) : OutS := match x with
  | .ok a S => k a S
  | .exc C fs ds S => .exc C fs ds S
  | .bad => .bad
theorem ok_sd {α : Type} {c : Ctx} {X : XK} {Dn : Ends} {x : Out α} {k : α → List Sl → OutS} (h : okS c X Dn (x.sd k)) : fin c X x fun a S => okS c X Dn (k a S) := by
  cases x with
  | ok a S => exact h
  | exc C fs ds S => exact h
  | bad => exact h
theorem PSsw {X : Cx} {st : List Stmt} {t t' : TS} (h : PSs X st t) (w : ∀ D σ H, t' D σ H → t D σ H) : PSs X st t' := ⟨fun pins s σ H D I q => h.run pins s σ H D I (w D σ H q)⟩

def sNext : MS := fun S => .next S
def sSeq (a b : MS) : MS := fun S => match a S with
  | .next S1 => b S1
  | .ret o S1 => .ret o S1
  | .brk S1 => .brk S1
  | .cont S1 => .cont S1
  | .exc C fs ds S1 => .exc C fs ds S1
  | .bad => .bad
section
variable {X : Cx} {c : Ctx} {W : XK} {mods m1 m2 : List Nat} {md md1 md2 : Bool} {e a b : Expr} {pos : Pos} {ma : M D} {mo : M O} {st : Stmt} {rest body : List Stmt} {s t u : MS}
theorem zDone : PSs X [] (tS c W sNext) := PSsw pss_nil fun D σ H ⟨G, S, As, R, q⟩ => q G As σ H R
theorem zSeq (h1 : PS X st (tS c W s)) (h2 : PSs X rest (tS c W t)) : PSs X (st :: rest) (tS c W (sSeq s t)) := PSsw (pss_cons h1 h2) fun D σ H ⟨G, S, As, R, q⟩ => by
  refine ⟨G, S, As, R, ?_⟩
  unfold sSeq at q
  cases hs : s S with
  | next S1 =>
    rw [hs] at q
    intro G' As' σ' H' R'
    exact ⟨G', S1, As', R', q⟩
  | ret o S1 =>
    rw [hs] at q
    exact q
  | brk S1 =>
    rw [hs] at q
    exact q
  | cont S1 =>
    rw [hs] at q
    exact q
  | exc C fs ds S1 =>
    rw [hs] at q
    exact q
  | bad =>
    rw [hs] at q
    exact q
theorem zOne (h1 : PS X st (tS c W s)) : PSs X [st] (tS c W s) := pss_one h1
theorem zPass : PS X (.Pass pos) (tS c W sNext) := PSw ps_pass fun D σ H ⟨G, S, As, R, q⟩ => q G As σ H R
def sBrk : MS := fun S => .brk S
def sCnt : MS := fun S => .cont S
theorem zBrk : PS X (.Break pos) (tS c W sBrk) := PSw ps_break fun D σ H ⟨G, S, As, R, q⟩ => q G As σ H R
theorem zCnt : PS X (.Continue pos) (tS c W sCnt) := PSw ps_continue fun D σ H ⟨G, S, As, R, q⟩ => q G As σ H R
/-- a way that is never gone -/
def sBad : MS := fun _ => .bad
theorem zBadS : PS X st (tS c W sBad) := ⟨fun pins s σ H D I ⟨G, S, As, R, q⟩ => q.elim⟩
/-! if -/
def sIf (t : M Bool) (a b : MS) : MS := fun S => (t S).sd fun x S1 => match x with
  | true => a S1
  | false => b S1
theorem zIf {tc : M Bool} {x y : List Stmt} {e : Expr} (ht : PT X e (tT c W mods tc)) (ha : PSs X x (tS c W s)) (hb : PSs X y (tS c W t)) : PS X (.If e x y pos) (tS c W (sIf tc s t)) := PSw (ps_if ht ha hb) fun D σ H ⟨G, S, As, R, q⟩ => by
  refine ⟨G, S, As, [], R, fin_mono (ok_sd q) fun x S1 e1 k => ?_⟩
  intro G1 As1 H1 R1 P1
  cases x with
  | true =>
    rw [if_pos rfl]
    exact ⟨G1, S1, As1, R1, k⟩
  | false =>
    rw [if_neg Bool.false_ne_true]
    exact ⟨G1, S1, As1, R1, k⟩
/-! return -/
def sRet (m : M O) : MS := fun S => (m S).sd fun o S1 => .ret o S1
def sRetN : MS := fun S => .ret (.sh .non) S
theorem zRet (h : PE X e (tO c W mods mo)) : PS X (.Return (some e) pos) (tS c W (sRet mo)) := PSw (ps_ret h) fun D σ H ⟨G, S, As, R, q⟩ => by
  refine ⟨G, S, As, [], R, fin_mono (ok_sd q) fun o S1 e1 k => ?_⟩
  intro v A G1 As1 H1 R1 P1 r1 N1 _
  exact k v A G1 As1 [] σ H1 R1 r1 N1
theorem zRetN : PS X (.Return none pos) (tS c W sRetN) := PSw ps_retN fun D σ H ⟨G, S, As, R, q⟩ => q .non [] G As [] σ H R (by unfold Ro; exact ⟨rfl, by unfold Rs; rfl⟩) New.nil
/-! an expression alone -/
def sDrop {α : Type} (m : M α) : MS := fun S => (m S).sd fun _ S1 => .next S1
theorem zDrop (h : PE X e (tE c W md mods ma)) (hs : swapsWith e none pos.line X.env = pure false := by rfl) : PS X (.Expr e pos) (tS c W (sDrop ma)) := PSw (ps_expr h hs) fun D σ H ⟨G, S, As, R, q⟩ => by
  refine ⟨G, S, As, [], R, fin_mono (ok_sd q) fun o S1 e1 k => ?_⟩
  intro v G1 As1 H1 R1 P1 r1
  exact k G1 As1 σ H1 R1
theorem zDropO (h : PE X e (tO c W mods mo)) (hs : swapsWith e none pos.line X.env = pure false := by rfl) : PS X (.Expr e pos) (tS c W (sDrop mo)) := PSw (ps_expr h hs) fun D σ H ⟨G, S, As, R, q⟩ => by
  refine ⟨G, S, As, [], R, fin_mono (ok_sd q) fun o S1 e1 k => ?_⟩
  intro v A G1 As1 H1 R1 P1 r1 N1 _
  exact k G1 As1 σ H1 R1

/-! ### targets -/
abbrev Tg := D → List Sl → Option (List Sl)
abbrev Tgs := List D → List Sl → Option (List Sl)
/-- just the slots ts were changed, none of them holds a thing of one's own now -/
structure Chg (ts : List Nat) (S S' : List Sl) (As As' : Nat → List Addr) (σ σ' : L2.St) : Prop where
  sl : ∀ j, j ∉ ts → S'[j]? = S[j]? ∧ As' j = As j ∧ σ'[j]? = σ[j]?
  sub : ∀ j a, a ∈ As' j → a ∈ As j
  len : S'.length = S.length
  lenσ : σ'.length = σ.length
theorem Chg.refl {ts : List Nat} {S : List Sl} {As : Nat → List Addr} {σ : L2.St} : Chg ts S S As As σ σ := ⟨fun _ _ => ⟨rfl, rfl, rfl⟩, fun _ _ h => h, rfl, rfl⟩
theorem Chg.trans {t1 t2 : List Nat} {S S1 S2 : List Sl} {As As1 As2 : Nat → List Addr} {σ σ1 σ2 : L2.St} (a : Chg t1 S S1 As As1 σ σ1) (b : Chg t2 S1 S2 As1 As2 σ1 σ2) : Chg (t1 ++ t2) S S2 As As2 σ σ2 :=
  ⟨fun j hj => by
    obtain ⟨h1, h2, h3⟩ := a.sl j fun z => hj (List.mem_append_left _ z)
    obtain ⟨h4, h5, h6⟩ := b.sl j fun z => hj (List.mem_append_right _ z)
    exact ⟨h4.trans h1, h5.trans h2, h6.trans h3⟩, fun j x h => a.sub j x (b.sub j x h), b.len.trans a.len, b.lenσ.trans a.lenσ⟩
def gT (c : Ctx) (ts : List Nat) (g : Tg) : TG := fun v σ H Q => ∃ G S As τ d, Real c G S As τ σ H ∧ Rs c.E G d v ∧ match g d S with
  | some S' => ∀ σ' As', Real c G S' As' τ σ' H → Chg ts S S' As As' σ σ' → Q σ' H
  | none => False
def gTs (c : Ctx) (ts : List Nat) (g : Tgs) : TGs := fun vs σ H Q => ∃ G S As τ ds, Real c G S As τ σ H ∧ RsL c.E G ds vs ∧ match g ds S with
  | some S' => ∀ σ' As', Real c G S' As' τ σ' H → Chg ts S S' As As' σ σ' → Q σ' H
  | none => False
theorem PGl {tg : Expr} {t t' : TG} (h : PG X tg t) (w : ∀ v σ H Q, σ.length = X.N.length → t' v σ H Q → t v σ H Q) : PG X tg t' := ⟨fun pins s σ H v u Q I r q => h.run pins s σ H v u Q I r (w v σ H Q I.len q)⟩
theorem PGsl {tg : List Expr} {t t' : TGs} (h : PGs X tg t) (w : ∀ v σ H Q, σ.length = X.N.length → t' v σ H Q → t v σ H Q) : PGs X tg t' := ⟨fun pins s σ H v u Q I r q => h.run pins s σ H v u Q I r (w v σ H Q I.len q)⟩
def gNm (i : Nat) : Tg := fun d S => some (S.set i (.pl d))
theorem upA_new {c : Ctx} {G : Hp} {As : Nat → List Addr} : New c G As [] := New.nil
theorem zNm {i : Nat} {x : Str} (hN : X.N.Nodup) (hi : X.N[i]? = some x) (hx : Loc X.env.scope x) (hio : i ∉ c.io) (hf : X.fn x = true ∨ X.env.scope.names.lookup x = some .local := by first | exact .inl rfl | exact .inr rfl | assumption) :
    PG X (.Name x pos) (gT c [i] (gNm i)) := PGl (pg_name hN hi hx hf) fun v σ H Q hl ⟨G, S, As, τ, d, R, r, k⟩ => by
  have hlt : i < σ.length := by rw [hl]; exact (List.getElem?_eq_some_iff.mp hi).1
  refine k _ _ (R.put (s := .pl d) (v := v) (A := []) hlt hio New.nil ⟨rfl, v, rfl, r⟩) ⟨fun j hj => ?_, fun j a h => ?_, List.length_set, List.length_set⟩
  · have hne : j ≠ i := fun z => hj (by rw [z]; exact List.mem_cons_self)
    exact ⟨List.getElem?_set_ne (Ne.symm hne), upA_ne hne, List.getElem?_set_ne (Ne.symm hne)⟩
  · by_cases hne : j = i
    · rw [hne, upA_same] at h; cases h
    · rw [upA_ne hne] at h; exact h
def gsNil : Tgs := fun ds S => match ds with
  | [] => some S
  | _ => none
def gsCons (g : Tg) (r : Tgs) : Tgs := fun ds S => match ds with
  | [] => none
  | d :: ds => match g d S with
    | some S1 => r ds S1
    | none => none
theorem zTs0 : PGs X [] (gTs c [] gsNil) := PGsl pgs_nil fun vs σ H Q hl ⟨G, S, As, τ, ds, R, r, k⟩ => by
  cases ds with
  | nil =>
    unfold RsL at r
    exact ⟨r, k σ As R Chg.refl⟩
  | cons d ds => exact k.elim
theorem zTs1 {g : Tg} {r : Tgs} {es : List Expr} {t1 t2 : List Nat} (h1 : PG X e (gT c t1 g)) (h2 : PGs X es (gTs c t2 r)) (hst : (assignEach (e :: es) X.env).map (·.2) = assign e X.env :: (assignEach es X.env).map (·.2) := by rfl) : PGs X (e :: es) (gTs c (t1 ++ t2) (gsCons g r)) :=
  PGsl (pgs_cons h1 h2 hst) fun vs σ H Q hl ⟨G, S, As, τ, ds, R, rr, k⟩ => by
    cases ds with
    | nil => exact k.elim
    | cons d ds =>
      unfold RsL at rr
      obtain ⟨v, r', rfl, h3, h4⟩ := rr
      refine ⟨v, r', rfl, G, S, As, τ, d, R, h3, ?_⟩
      have k' : match gsCons g r (d :: ds) S with
        | some S' => ∀ σ' As', Real c G S' As' τ σ' H → Chg (t1 ++ t2) S S' As As' σ σ' → Q σ' H
        | none => False := k
      unfold gsCons at k'
      cases hg : g d S with
      | none =>
        simp only [hg] at k'
      | some S1 =>
        simp only [hg] at k'
        intro σ1 As1 R1 C1
        refine ⟨G, S1, As1, τ, ds, R1, h4, ?_⟩
        cases hr : r ds S1 with
        | none => simp only [hr] at k'
        | some S2 =>
          simp only [hr] at k'
          exact fun σ2 As2 R2 C2 => k' σ2 As2 R2 (C1.trans C2)
def gTp (n : Nat) (r : Tgs) : Tg := fun d S => match d with
  | .tup ds => match decide (ds.length = n) with
    | true => r ds S
    | false => none
  | _ => none
theorem zTp {r : Tgs} {es : List Expr} {k n : Nat} {ts : List Nat} (hK : c.E.K = X.K) (hc : X.calm = true) (h : PGs X es (gTs c ts r)) (hn : (assignEach es X.env).length = n := by rfl) (hst : (assignEach es X.env).findIdx? (·.1) = none := by rfl) :
    PG X (.Tuple es k pos) (gT c ts (gTp n r)) := PGl (pg_tup hc h hn hst) fun v σ H Q hl ⟨G, S, As, τ, d, R, r1, k⟩ => by
  cases d with
  | tup ds =>
    unfold gTp at k
    unfold Rs at r1
    obtain ⟨a, xs, rfl, h2, h3⟩ := r1
    cases hd : decide (ds.length = n) with
    | false =>
      simp only [hd] at k
    | true =>
      simp only [hd] at k
      exact ⟨a, xs, rfl, hK ▸ R.exG.seqt h2.sq, (RsL.length h3).symm.trans (of_decide_eq_true hd), G, S, As, τ, ds, R, h3, k⟩
  | _ => exact k.elim
/-! ### assignments -/
def sAsg (m : M D) (g : Tg) : MS := fun S => (m S).sd fun d S1 => match g d S1 with
  | some S2 => .next S2
  | none => .bad
theorem w_asg {m : M D} {g : Tg} {ts : List Nat} (D : Ends) (σ : L2.St) (H : Hp) (h : tS c W (sAsg m g) D σ H) : tAsg (tE c W true mods m) (gT c ts g) D σ H := by
  obtain ⟨G, S, As, R, q⟩ := h
  refine ⟨G, S, As, [], R, fin_mono (ok_sd q) fun d S1 e1 k => ?_⟩
  intro v G1 As1 H1 R1 P1 r1
  refine ⟨G1, S1, As1, [], d, R1, r1, ?_⟩
  cases hg : g d S1 with
  | none =>
    rw [hg] at k
    exact k.elim
  | some S2 =>
    rw [hg] at k
    intro σ' As' R' _
    exact k G1 As' σ' H1 R'
theorem zAsg {tg : Expr} {g : Tg} {ts : List Nat} (h : PE X e (tE c W true mods ma)) (hg : PG X tg (gT c ts g)) (hs : swapsWithSole [tg] e pos.line X.env = pure false := by rfl) (hw : swappedStores [tg] e X.env = pure none := by rfl)
    (h1 : (assignEach [tg] X.env).map (·.2) = [assign tg X.env] := by rfl) : PS X (.Assign [tg] e pos) (tS c W (sAsg ma g)) :=
  PSw (ps_asg h hg hs hw h1) w_asg
def sOwn (m : M O) (i : Nat) : MS := fun S => (m S).sd fun o S1 => .next (S1.set i (.ow o))
theorem w_own {m : M O} {i : Nat} (hi : i < X.N.length) (hio : i ∉ c.io) (D : Ends) (σ : L2.St) (H : Hp) (hl : σ.length = X.N.length) (h : tS c W (sOwn m i) D σ H) : tAsg (tO c W mods m) (gName i) D σ H := by
  obtain ⟨G, S, As, R, q⟩ := h
  refine ⟨G, S, As, [], R, fin_mono (ok_sd q) fun o S1 e1 k => ?_⟩
  intro v A G1 As1 H1 R1 P1 r1 N1 _
  exact k G1 _ _ H1 (R1.put (s := .ow o) (by rw [hl]; exact hi) hio N1 ⟨v, rfl, r1⟩)
theorem zOwn {i : Nat} {x : Str} {p : Pos} (hN : X.N.Nodup) (hi : X.N[i]? = some x) (hx : Loc X.env.scope x) (hio : i ∉ c.io) (h : PE X e (tO c W mods mo)) (hs : swapsWithSole [.Name x p] e pos.line X.env = pure false := by rfl) (hw : swappedStores [.Name x p] e X.env = pure none := by rfl)
    (hf : X.fn x = true ∨ X.env.scope.names.lookup x = some .local := by first | exact .inl rfl | exact .inr rfl | assumption) : PS X (.Assign [.Name x p] e pos) (tS c W (sOwn mo i)) :=
  PSl (ps_asg h (pg_name hN hi hx hf) hs hw) (w_own (List.getElem?_eq_some_iff.mp hi).1 hio)

/-! ### while -/
def whl : Nat → M Bool → MS → MS
  | 0, _, _ => fun _ => .bad
  | n + 1, t, b => fun S => (t S).sd fun x S1 => match x with
    | true => match b S1 with
      | .next S2 => whl n t b S2
      | .cont S2 => whl n t b S2
      | .brk S2 => .next S2
      | .ret o S2 => .ret o S2
      | .exc C fs ds S2 => .exc C fs ds S2
      | .bad => .bad
    | false => .next S1
def sWhile (n : Nat) (t : M Bool) (b : MS) : MS := fun S => whl n t b S
theorem zWhile {n : Nat} {tc : M Bool} (hp : PassesOwn (model X.prog X.w) X.A X.env X.xe) (ht : PT X e (tT c W mods tc)) (hb : PSs X body (tS c W s)) : PS X (.While e body [] pos) (tS c W (sWhile n tc s)) := PSw (ps_while hp ht hb) fun D σ H ⟨G, S, As, R, q⟩ => by
  refine ⟨fun m σ H => ∃ G S As, Real c G S As [] σ H ∧ okS c W D (whl m tc s S), ⟨n, G, S, As, R, q⟩, ?_⟩
  rintro m σ1 H1 ⟨G1, S1, As1, R1, q1⟩
  cases m with
  | zero => exact q1.elim
  | succ m =>
    refine ⟨G1, S1, As1, [], R1, fin_mono (ok_sd q1) fun x S2 e2 k => ?_⟩
    intro G2 As2 H2 R2 P2
    cases x with
    | false =>
      rw [if_neg Bool.false_ne_true]
      exact k G2 As2 σ1 H2 R2
    | true =>
      rw [if_pos rfl]
      refine ⟨fun σ' H' => ∃ G S As, Real c G S As [] σ' H' ∧ okS c W D (whl m tc s S), fun σ' H' q => ⟨m, Nat.lt_succ_self m, q⟩, ?_⟩
      refine ⟨G2, S2, As2, R2, ?_⟩
      have k' : okS c W D (match s S2 with
        | .next S3 => whl m tc s S3
        | .cont S3 => whl m tc s S3
        | .brk S3 => .next S3
        | .ret o S3 => .ret o S3
        | .exc C fs ds S3 => .exc C fs ds S3
        | .bad => .bad) := k
      cases hs : s S2 with
      | next S3 =>
        rw [hs] at k'
        intro G3 As3 σ3 H3 R3
        exact ⟨G3, S3, As3, R3, k'⟩
      | cont S3 =>
        rw [hs] at k'
        intro G3 As3 σ3 H3 R3
        exact ⟨G3, S3, As3, R3, k'⟩
      | brk S3 =>
        rw [hs] at k'
        exact k'
      | ret o S3 =>
        rw [hs] at k'
        exact k'
      | exc C fs ds S3 =>
        rw [hs] at k'
        exact k'
      | bad =>
        rw [hs] at k'
        exact k'

/-! ### what is walked -/
/-- J walks ds, as long as what G has stands -/
structure Walks (E : Ev) (J : It) (G : Hp) (ds : List D) : Prop where
  go : ∀ i H, Ex G H → i < ds.length → J.go i H
  stop : ∀ i H, Ex G H → ds.length ≤ i → J.stop i H
  yld : ∀ i H x H', Ex G H → i < ds.length → J.yld i H x H' → Keep H H' ∧ ∃ B d, ds[i]? = some d ∧ (∀ b ∈ B, H b = none) ∧ B.Nodup ∧ ∀ G2, Ex G G2 → Ex G2 H → Rs E (frz G2 H' B) d x
def tI (c : Ctx) (X : XK) (mods : List Nat) (m : M (List D)) : TI := fun σ H R => ∃ G S As τ, Real c G S As τ σ H ∧ fin c X (m S) fun ds S' =>
  ∀ J G' As' H', Real c G' S' As' τ σ H' → Post mods S S' As As' G G' H H' → Walks c.E J G' ds → R J H'
def forGo (g : Tg) (b : MS) : List D → MS
  | [] => fun S => .next S
  | d :: ds => fun S => match g d S with
    | none => .bad
    | some S1 => match b S1 with
      | .next S2 => forGo g b ds S2
      | .cont S2 => forGo g b ds S2
      | .brk S2 => .next S2
      | .ret o S2 => .ret o S2
      | .exc C fs ds S2 => .exc C fs ds S2
      | .bad => .bad
def sFor (m : M (List D)) (g : Tg) (b : MS) : MS := fun S => (m S).sd fun ds S1 => forGo g b ds S1
/-- new nodes are shared from now on -/
theorem Real.seen {c : Ctx} {G : Hp} {S : List Sl} {As : Nat → List Addr} {τ : List V} {σ : L2.St} {H H' : Hp} {B : List Addr} (R : Real c G S As τ σ H) (k : Keep H H') (n : ∀ b ∈ B, H b = none) (nd : B.Nodup) : Real c (frz G H' B) S As τ σ H' := by
  have N : New c G As B := ⟨nd, fun b hb => (R.fresh (n b hb)).1, fun b hb => (R.fresh (n b hb)).2.1, fun b hb => (R.fresh (n b hb)).2.2⟩
  exact (R.keep k).freeze N
/-- the same entry, what G1 has told apart -/
def Ctx.at (c : Ctx) (G1 : Hp) : Ctx := { c with G0 := G1 }
theorem Real.into {c : Ctx} {G G1 : Hp} {S : List Sl} {As : Nat → List Addr} {τ : List V} {σ : L2.St} {H : Hp} (R : Real c G S As τ σ H) (e : Ex G1 G) (n : ∀ a, c.H0 a ≠ none → G1 a = c.G0 a) : Real (c.at G1) G S As τ σ H :=
  ⟨R.exG, R.sl, R.len, R.emp, R.nd, R.dj, R.nf, e, fun a h => (R.gn a h).trans (n a h).symm, R.fr0, R.stay, R.fn, R.io⟩
theorem Real.back {c : Ctx} {G G1 : Hp} {S : List Sl} {As : Nat → List Addr} {τ : List V} {σ : L2.St} {H : Hp} (R : Real (c.at G1) G S As τ σ H) (e : Ex c.G0 G1) (n : ∀ a, c.H0 a ≠ none → G1 a = c.G0 a) : Real c G S As τ σ H :=
  ⟨R.exG, R.sl, R.len, R.emp, R.nd, R.dj, R.nf, e.trans R.g0, fun a h => (R.gn a h).trans (n a h), R.fr0, R.stay, R.fn, R.io⟩
/-- a body that is entered with any shared part -/
def tSx (c : Ctx) (X : XK) (m : MS) : TS := fun Dn σ H => ∃ G1, tS (c.at G1) X m Dn σ H
theorem zx {st : List Stmt} {s : MS} (h : ∀ G1, PSs X st (tS (c.at G1) W s)) : PSs X st (tSx c W s) := ⟨fun pins s σ H D I ⟨G1, q⟩ => (h G1).run pins s σ H D I q⟩
theorem zFor {tg iter : Expr} {g : Tg} {ts : List Nat} {mi : M (List D)} (hp : PassesOwn (model X.prog X.w) X.A X.env X.xe) (hc : X.calm = true) (hi : PI X tg iter (tI c W mods mi)) (hg : PG X tg (gT c ts g)) (hb : ∀ G1, PSs X body (tS (c.at G1) W s)) (hs : ∀ x, foldedSetIterable iter X.env x = pure x := by intro _; rfl) :
    PS X (.For tg iter body [] pos) (tS c W (sFor mi g s)) := PSw (ps_for hp hc hi hg (zx hb) hs) fun D σ H ⟨G, S, As, R, q⟩ => by
  refine ⟨G, S, As, [], R, fin_mono (ok_sd q) fun ds S1 e1 k => ?_⟩
  intro J G1 As1 H1 R1 P1 Wk
  have n1 : ∀ a, c.H0 a ≠ none → G1 a = c.G0 a := R1.gn
  have g1 : Ex c.G0 G1 := R1.g0
  refine ⟨fun i m σ H => m = ds.length - i ∧ i ≤ ds.length ∧ ∃ G S As, Real (c.at G1) G S As [] σ H ∧ okS c W D (forGo g s (ds.drop i) S), ⟨ds.length, rfl, Nat.zero_le _, G1, S1, As1, R1.into (Ex.refl _) n1, k⟩, ?_⟩
  rintro i m σ2 H2 ⟨rfl, hi, G2, S2, As2, R2, k2⟩
  have x2 : Ex G1 G2 := R2.g0
  have x3 : Ex G1 H2 := x2.trans R2.exG
  by_cases hlt : i < ds.length
  · refine .inr ⟨Wk.go i H2 x3 hlt, fun σ' H' => ∃ G S As, Real (c.at G1) G S As [] σ' H' ∧ okS c W D (forGo g s (ds.drop (i + 1)) S), fun σ' H' q => ⟨ds.length - (i + 1), by omega, rfl, hlt, q⟩, fun x H' y => ?_⟩
    obtain ⟨kp, B, d, hd, nb, ndb, rs⟩ := Wk.yld i H2 x H' x3 hlt y
    have R3 := R2.seen kp nb ndb
    have r3 := rs G2 x2 R2.exG
    have ed : ds.drop i = d :: ds.drop (i + 1) := by
      rw [List.drop_eq_getElem_cons hlt]
      have := List.getElem?_eq_getElem hlt
      rw [hd] at this
      rw [Option.some.inj this]
    rw [ed] at k2
    refine ⟨frz G2 H' B, S2, As2, [], d, R3.back g1 n1, r3, ?_⟩
    have k3 : okS c W D (match g d S2 with
      | none => .bad
      | some S1 => match s S1 with
        | .next S2 => forGo g s (ds.drop (i + 1)) S2
        | .cont S2 => forGo g s (ds.drop (i + 1)) S2
        | .brk S2 => .next S2
        | .ret o S2 => .ret o S2
        | .exc C fs ds S2 => .exc C fs ds S2
        | .bad => .bad) := k2
    cases hg : g d S2 with
    | none =>
      rw [hg] at k3
      exact k3.elim
    | some S3 =>
      rw [hg] at k3
      intro σ3 As3 R4 _
      have R5 := R4.into R3.g0 n1
      refine ⟨G1, frz G2 H' B, S3, As3, R5, ?_⟩
      have k4 : okS c W D (match s S3 with
        | .next S2 => forGo g s (ds.drop (i + 1)) S2
        | .cont S2 => forGo g s (ds.drop (i + 1)) S2
        | .brk S2 => .next S2
        | .ret o S2 => .ret o S2
        | .exc C fs ds S2 => .exc C fs ds S2
        | .bad => .bad) := k3
      cases hs : s S3 with
      | next S4 =>
        rw [hs] at k4
        intro G4 As4 σ4 H4 R6
        exact ⟨G4, S4, As4, R6, k4⟩
      | cont S4 =>
        rw [hs] at k4
        intro G4 As4 σ4 H4 R6
        exact ⟨G4, S4, As4, R6, k4⟩
      | brk S4 =>
        rw [hs] at k4
        intro G4 As4 σ4 H4 R6
        exact k4 G4 As4 σ4 H4 (R6.back g1 n1)
      | ret o S4 =>
        rw [hs] at k4
        intro v A G4 As4 τ4 σ4 H4 R6 r6 N6
        exact k4 v A G4 As4 τ4 σ4 H4 (R6.back g1 n1) r6 ⟨N6.nd, N6.h0, N6.g, N6.out⟩
      | exc C fs ds S4 =>
        rw [hs] at k4
        intro G4 As4 τ4 σ4 H4 dd R6 x6
        exact k4 G4 As4 τ4 σ4 H4 dd (R6.back g1 n1) x6
      | bad =>
        rw [hs] at k4
        exact k4.elim
  · have e : i = ds.length := by omega
    subst e
    rw [List.drop_length] at k2
    exact .inl ⟨Wk.stop _ H2 x3 (Nat.le_refl _), k2 G2 As2 σ2 H2 (R2.back g1 n1)⟩
/-! ### what can be walked -/
theorem PIw {tg iter : Expr} {t t' : TI} (h : PI X tg iter t) (w : ∀ σ H R, t' σ H R → t σ H R) : PI X tg iter t' := ⟨fun pins s σ H R I q => h.run pins s σ H R I (w σ H R q)⟩
def itL : D → Option (List D)
  | .lst ds => some ds
  | _ => none
def itT : D → Option (List D)
  | .tup ds => some ds
  | _ => none
theorem frz_nil {G H : Hp} : frz G H [] = G := by
  funext a
  exact frz_out fun z => nomatch z
theorem zIl {tg iter : Expr} (hK : c.E.K = X.K) (h : PE X iter (tE c W true mods ma)) : PI X tg iter (tI c W mods (m1x itL ma)) := PIw (pi_list h) fun σ H R ⟨G, S, As, τ, Rl, q⟩ => by
  refine ⟨G, S, As, τ, Rl, fin_mono (fin_bd q) fun d S1 e1 k => ?_⟩
  intro v G1 As1 H1 R1 P1 r1
  cases d with
  | lst ds =>
    unfold Rs at r1
    obtain ⟨a, xs, rfl, h2, h3⟩ := r1
    have sq : ∀ H, Ex G1 H → SqL X.K H a xs := fun H x => SqL.of (x.hard h2 rfl)
    refine ⟨a, rfl, ⟨xs, sq H1 R1.exG⟩, k (Itl X.K a) G1 As1 H1 R1 P1 ⟨fun i H x hl => ?_, fun i H x hl => ?_, fun i H x H' ex hl y => ?_⟩⟩
    · rw [RsL.length h3] at hl
      exact ⟨xs, xs[i], sq H x, List.getElem?_eq_getElem hl⟩
    · rw [RsL.length h3] at hl
      exact ⟨xs, sq H x, hl⟩
    · obtain ⟨rfl, y⟩ := y
      refine ⟨Keep.refl _, [], ds[i], List.getElem?_eq_getElem hl, (fun _ z => nomatch z), List.nodup_nil, fun G2 x2 _ => ?_⟩
      obtain ⟨v, hv, rv⟩ := RsL.get h3 (List.getElem?_eq_getElem hl)
      have e := y xs (sq _ ex)
      rw [hv] at e
      rw [frz_nil, ← Option.some.inj e]
      exact Rs.mono x2 rv
  | _ => exact k.elim
theorem zIt {tg iter : Expr} (hK : c.E.K = X.K) (h : PE X iter (tE c W true mods ma)) : PI X tg iter (tI c W mods (m1x itT ma)) := PIw (pi_tup h) fun σ H R ⟨G, S, As, τ, Rl, q⟩ => by
  refine ⟨G, S, As, τ, Rl, fin_mono (fin_bd q) fun d S1 e1 k => ?_⟩
  intro v G1 As1 H1 R1 P1 r1
  cases d with
  | tup ds =>
    unfold Rs at r1
    obtain ⟨a, xs, rfl, h2, h3⟩ := r1
    have sq : ∀ H, Ex G1 H → SqT X.K H a xs := fun H x => hK ▸ x.seqt h2.sq
    refine ⟨a, rfl, ⟨xs, sq H1 R1.exG⟩, k (Itt X.K a) G1 As1 H1 R1 P1 ⟨fun i H x hl => ?_, fun i H x hl => ?_, fun i H x H' ex hl y => ?_⟩⟩
    · rw [RsL.length h3] at hl
      exact ⟨xs, xs[i], sq H x, List.getElem?_eq_getElem hl⟩
    · rw [RsL.length h3] at hl
      exact ⟨xs, sq H x, hl⟩
    · obtain ⟨rfl, y⟩ := y
      refine ⟨Keep.refl _, [], ds[i], List.getElem?_eq_getElem hl, (fun _ z => nomatch z), List.nodup_nil, fun G2 x2 _ => ?_⟩
      obtain ⟨v, hv, rv⟩ := RsL.get h3 (List.getElem?_eq_getElem hl)
      have e := y xs (sq _ ex)
      rw [hv] at e
      rw [frz_nil, ← Option.some.inj e]
      exact Rs.mono x2 rv
  | _ => exact k.elim
/-- lo, lo + 1, .. -/
def rangeD (lo : Int) (n : Nat) : List D := (List.range n).map fun (i : Nat) => D.int (lo + i)
theorem rangeD_len {lo : Int} {n : Nat} : (rangeD lo n).length = n := by
  unfold rangeD
  rw [List.length_map, List.length_range]
theorem rangeD_at {lo : Int} {n i : Nat} (h : i < n) : (rangeD lo n)[i]? = some (.int (lo + i)) := by
  unfold rangeD
  rw [List.getElem?_map, List.getElem?_range h]
  rfl
theorem walks_range {E : Ev} {G : Hp} {lo : Int} {n : Nat} : Walks E (Itr lo n) G (rangeD lo n) where
  go := fun i H _ h => by rw [rangeD_len] at h; exact h
  stop := fun i H _ h => by rw [rangeD_len] at h; exact h
  yld := fun i H x H' _ h y => by
    rw [rangeD_len] at h
    obtain ⟨rfl, rfl⟩ := y
    refine ⟨Keep.refl _, [], _, rangeD_at h, (fun _ z => nomatch z), List.nodup_nil, fun G2 _ _ => ?_⟩
    unfold Rs
    rfl
def itR1 : List D → Option (List D)
  | [.int j] => match decide (-(2 ^ 62) ≤ j ∧ j < 2 ^ 62) with
    | true => some (rangeD 0 j.toNat)
    | false => none
  | _ => none
def itR2 : List D → Option (List D)
  | [.int i, .int j] => match decide (-(2 ^ 62) ≤ i ∧ i < 2 ^ 62 ∧ -(2 ^ 62) ≤ j ∧ j < 2 ^ 62) with
    | true => some (rangeD i (j - i).toNat)
    | false => none
  | _ => none
theorem zIr1 {tg : Expr} {m : M (List D)} {p : Pos} (hg : Gl X "range") (hm : X.mg "range" = none) (ha : PA X [a] (tA c W md mods m)) (hs : starEach [a] X.env = [(false, eval a X.env)] := by rfl) : PI X tg (.Call (.Name "range" p) [a] [] pos) (tI c W mods (m1x itR1 m)) :=
  PIw (pi_range1 hg hm ha hs) fun σ H R ⟨G, S, As, τ, Rl, q⟩ => by
    refine ⟨G, S, As, τ, Rl, fin_mono (fin_bd q) fun ds S1 e1 k => ?_⟩
    intro vs G1 As1 H1 R1 P1 r1
    unfold itR1 at k
    split at k
    · rename_i j
      unfold RsL at r1
      obtain ⟨v, r, rfl, h2, h3⟩ := r1
      unfold RsL at h3
      unfold Rs at h2
      subst h3 h2
      cases hd : decide (-(2 ^ 62) ≤ j ∧ j < 2 ^ 62) with
      | false => rw [hd] at k; exact k.elim
      | true =>
        rw [hd] at k
        have hd' := of_decide_eq_true hd
        exact ⟨j, rfl, hd'.1, hd'.2, k _ G1 As1 H1 R1 P1 walks_range⟩
    · exact k.elim
theorem zIr2 {tg : Expr} {m : M (List D)} {p : Pos} (hg : Gl X "range") (hm : X.mg "range" = none) (ha : PA X [a, b] (tA c W md mods m)) (hs : starEach [a, b] X.env = [(false, eval a X.env), (false, eval b X.env)] := by rfl) (hs2 : starEach [b] X.env = [(false, eval b X.env)] := by rfl) :
    PI X tg (.Call (.Name "range" p) [a, b] [] pos) (tI c W mods (m1x itR2 m)) :=
  PIw (pi_range2 hg hm ha hs hs2) fun σ H R ⟨G, S, As, τ, Rl, q⟩ => by
    refine ⟨G, S, As, τ, Rl, fin_mono (fin_bd q) fun ds S1 e1 k => ?_⟩
    intro vs G1 As1 H1 R1 P1 r1
    unfold itR2 at k
    split at k
    · rename_i i j
      unfold RsL at r1
      obtain ⟨v, r, rfl, h2, h3⟩ := r1
      unfold RsL at h3
      obtain ⟨v', r', rfl, h4, h5⟩ := h3
      unfold RsL at h5
      unfold Rs at h2 h4
      subst h2 h4 h5
      cases hd : decide (-(2 ^ 62) ≤ i ∧ i < 2 ^ 62 ∧ -(2 ^ 62) ≤ j ∧ j < 2 ^ 62) with
      | false => rw [hd] at k; exact k.elim
      | true =>
        rw [hd] at k
        exact ⟨i, j, rfl, of_decide_eq_true hd, k _ G1 As1 H1 R1 P1 walks_range⟩
    · exact k.elim
end
end Z

/-! Z6: comprehensions. -/
namespace Z
open PySem PySem.Spec PyProof.Rows L2
/-- nothing may be raised here -/
def Out.bn {α β : Type} (x : Out α) (k : α → List Sl → Out β) : Out β := match x with
  | .ok a S => k a S
  | .exc _ _ _ _ => .bad
  | .bad => .bad
abbrev E00 : XK := fun _ _ _ => False
theorem fin_bn {α β : Type} {c : Ctx} {X W : XK} {x : Out α} {k : α → List Sl → Out β} {q : β → List Sl → Prop} (h : fin c X (x.bn k) q) : fin c W x fun a S => fin c X (k a S) q := by
  cases x with
  | ok a S => exact h
  | exc C fs ds S => exact h.elim
  | bad => exact h
def wipeS (S : List Sl) : List Nat → List Sl
  | [] => S
  | v :: vs => (wipeS S vs).set v .no
def wipeA (As : Nat → List Addr) (vs : List Nat) : Nat → List Addr := fun j => if j ∈ vs then [] else As j
def notOw : Option Sl → Bool
  | some (.ow _) => false
  | _ => true
def restS (S1 S2 : List Sl) : List Nat → List Sl
  | [] => S2
  | v :: vs => (restS S1 S2 vs).set v (S1.getD v .no)
theorem wipeS_len {S : List Sl} : ∀ {vs : List Nat}, (wipeS S vs).length = S.length
  | [] => rfl
  | v :: vs => by unfold wipeS; rw [List.length_set, wipeS_len]
theorem restS_len {S1 S2 : List Sl} : ∀ {vs : List Nat}, (restS S1 S2 vs).length = S2.length
  | [] => rfl
  | v :: vs => by unfold restS; rw [List.length_set, restS_len]
theorem wipeS_at {S : List Sl} {j : Nat} : ∀ {vs : List Nat}, j ∉ vs → (wipeS S vs)[j]? = S[j]?
  | [], _ => rfl
  | v :: vs, h => by
    unfold wipeS
    rw [List.getElem?_set_ne fun z => h (by rw [z]; exact List.mem_cons_self)]
    exact wipeS_at fun z => h (List.mem_cons_of_mem _ z)
theorem wipeS_in {S : List Sl} {j : Nat} : ∀ {vs : List Nat}, j ∈ vs → j < S.length → (wipeS S vs)[j]? = some .no
  | v :: vs, h, hl => by
    unfold wipeS
    by_cases e : v = j
    · subst e
      rw [List.getElem?_set_self (by rw [wipeS_len]; exact hl)]
    · rw [List.getElem?_set_ne e]
      exact wipeS_in ((List.mem_cons.mp h).resolve_left fun z => e z.symm) hl
theorem restS_at {S1 S2 : List Sl} {j : Nat} : ∀ {vs : List Nat}, j ∉ vs → (restS S1 S2 vs)[j]? = S2[j]?
  | [], _ => rfl
  | v :: vs, h => by
    unfold restS
    rw [List.getElem?_set_ne fun z => h (by rw [z]; exact List.mem_cons_self)]
    exact restS_at fun z => h (List.mem_cons_of_mem _ z)
theorem restS_in {S1 S2 : List Sl} {j : Nat} : ∀ {vs : List Nat}, j ∈ vs → j < S2.length → S1.length = S2.length → (restS S1 S2 vs)[j]? = S1[j]?
  | v :: vs, h, hl, el => by
    unfold restS
    by_cases e : v = j
    · subst e
      rw [List.getElem?_set_self (by rw [restS_len]; exact hl), List.getD_eq_getElem?_getD, List.getElem?_eq_getElem (by omega)]
      rfl
    · rw [List.getElem?_set_ne e]
      exact restS_in ((List.mem_cons.mp h).resolve_left fun z => e z.symm) hl el
theorem wipe_out2 {σ : L2.St} {j : Nat} : ∀ {vs : List Nat}, j ∉ vs → (wipe σ vs)[j]? = σ[j]?
  | [], _ => rfl
  | v :: vs, h => by
    unfold wipe
    rw [List.getElem?_set_ne fun z => h (by rw [z]; exact List.mem_cons_self)]
    exact wipe_out2 fun z => h (List.mem_cons_of_mem _ z)
theorem wipe_in2 {σ : L2.St} {j : Nat} : ∀ {vs : List Nat}, j ∈ vs → j < σ.length → (wipe σ vs)[j]? = some none
  | v :: vs, h, hl => by
    unfold wipe
    by_cases e : v = j
    · subst e
      rw [List.getElem?_set_self (by rw [wipe_length]; exact hl)]
    · rw [List.getElem?_set_ne e]
      exact wipe_in2 ((List.mem_cons.mp h).resolve_left fun z => e z.symm) hl
/-- states that differ in vs alone are one when wiped -/
theorem wipe_eq {σ σ' : L2.St} {ts vs : List Nat} (h : ∀ j, j ∉ ts → σ'[j]? = σ[j]?) (hl : σ'.length = σ.length) (hs : ∀ j ∈ ts, j ∈ vs) : wipe σ' vs = wipe σ vs := by
  apply List.ext_getElem?
  intro j
  by_cases hj : j ∈ vs
  · by_cases hlt : j < σ.length
    · rw [wipe_in2 hj hlt, wipe_in2 hj (by omega)]
    · rw [List.getElem?_eq_none (by rw [wipe_length]; omega), List.getElem?_eq_none (by rw [wipe_length]; omega)]
  · rw [wipe_out2 hj, wipe_out2 hj]
    exact h j fun z => hj (hs j z)
section
variable {c : Ctx} {G G1 : Hp} {S S1 S2 : List Sl} {As As1 As2 : Nat → List Addr} {τ : List V} {σ : L2.St} {H H1 : Hp} {vs mods : List Nat}
theorem Real.wipe (R : Real c G S As τ σ H) (hv : ∀ v ∈ vs, v < σ.length) (hio : ∀ v ∈ vs, v ∉ c.io) : Real c G (wipeS S vs) (wipeA As vs) τ (L2.wipe σ vs) H where
  exG := R.exG
  sl := fun j s e => by
    by_cases hj : j ∈ vs
    · have hl := hv j hj
      rw [wipeS_in hj (by rw [R.len]; omega)] at e
      cases e
      show wipeA As vs j = []
      exact if_pos hj
    · rw [wipeS_at hj] at e
      have q := R.sl j s e
      have e1 : wipeA As vs j = As j := if_neg hj
      have e2 : (env (L2.wipe σ vs) τ)[j]? = (env σ τ)[j]? := by
        unfold env
        by_cases hlt : j < σ.length
        · rw [List.getElem?_append_left (by rw [wipe_length]; exact hlt), List.getElem?_append_left hlt, wipe_out2 hj]
        · rw [List.getElem?_append_right (by rw [wipe_length]; omega), List.getElem?_append_right (by omega), wipe_length]
      rw [e1, e2]
      exact q
  len := by rw [wipeS_len, wipe_length]; exact R.len
  emp := fun j hj => by
    rw [wipeS_len] at hj
    unfold wipeA
    split
    · rfl
    · exact R.emp j hj
  nd := fun j => by
    unfold wipeA
    split
    · exact List.nodup_nil
    · exact R.nd j
  dj := fun i j a hi hj => by
    unfold wipeA at hi hj
    split at hi
    · cases hi
    · split at hj
      · cases hj
      · exact R.dj i j a hi hj
  nf := fun i a hi => by
    unfold wipeA at hi
    split at hi
    · cases hi
    · exact R.nf i a hi
  g0 := R.g0
  gn := R.gn
  fr0 := R.fr0
  stay := R.stay
  fn := fun i a hi => by
    unfold wipeA at hi
    split at hi
    · cases hi
    · exact R.fn i a hi
  io := fun j hj => by
    have hn : j ∉ vs := fun z => hio j z hj
    obtain ⟨o, w, h1, h2, h3⟩ := R.io j hj
    exact ⟨o, w, by rw [wipeS_at hn]; exact h1, h2, by rw [wipe_out2 hn]; exact h3⟩
theorem Real.unwipe (R2 : Real c G S2 As2 τ (L2.wipe σ vs) H) (R1 : Real c G1 S1 As1 τ σ H1) (e : Ex G1 G) (hv : ∀ v ∈ vs, v < σ.length) (hio : ∀ v ∈ vs, v ∉ c.io) (hn : ∀ v ∈ vs, notOw S1[v]? = true) : Real c G (restS S1 S2 vs) (wipeA As2 vs) τ σ H where
  exG := R2.exG
  sl := fun j s e1 => by
    have l1 := R1.len
    have l2 := R2.len
    rw [wipe_length] at l2
    by_cases hj : j ∈ vs
    · have hl := hv j hj
      rw [restS_in hj (by omega) (by omega)] at e1
      have e2 : wipeA As2 vs j = [] := if_pos hj
      rw [e2]
      have q := R1.sl j s e1
      have n := hn j hj
      rw [e1] at n
      cases s with
      | no => rfl
      | pl d =>
        obtain ⟨h1, v, h2, h3⟩ := q
        exact ⟨rfl, v, h2, Rs.mono e h3⟩
      | ow o => cases n
    · rw [restS_at hj] at e1
      have q := R2.sl j s e1
      have e2 : wipeA As2 vs j = As2 j := if_neg hj
      have e3 : (env (L2.wipe σ vs) τ)[j]? = (env σ τ)[j]? := by
        unfold env
        by_cases hlt : j < σ.length
        · rw [List.getElem?_append_left (by rw [wipe_length]; exact hlt), List.getElem?_append_left hlt, wipe_out2 hj]
        · rw [List.getElem?_append_right (by rw [wipe_length]; omega), List.getElem?_append_right (by omega), wipe_length]
      rw [e3] at q
      rw [e2]
      exact q
  len := by
    rw [restS_len]
    have := R2.len
    rw [wipe_length] at this
    exact this
  emp := fun j hj => by
    rw [restS_len] at hj
    unfold wipeA
    split
    · rfl
    · exact R2.emp j hj
  nd := fun j => by
    unfold wipeA
    split
    · exact List.nodup_nil
    · exact R2.nd j
  dj := fun i j a hi hj => by
    unfold wipeA at hi hj
    split at hi
    · cases hi
    · split at hj
      · cases hj
      · exact R2.dj i j a hi hj
  nf := fun i a hi => by
    unfold wipeA at hi
    split at hi
    · cases hi
    · exact R2.nf i a hi
  g0 := R2.g0
  gn := R2.gn
  fr0 := R2.fr0
  stay := R2.stay
  fn := fun i a hi => by
    unfold wipeA at hi
    split at hi
    · cases hi
    · exact R2.fn i a hi
  io := fun j hj => by
    have hn : j ∉ vs := fun z => hio j z hj
    obtain ⟨o, w, h1, h2, h3⟩ := R2.io j hj
    exact ⟨o, w, by rw [restS_at hn]; exact h1, h2, by rw [wipe_out2 hn] at h3; exact h3⟩
end
section
variable {mods vs ts : List Nat} {S S0 S1 S2 S' : List Sl} {As As0 As1 As2 As' : Nat → List Addr} {G G1 G2 G' H H1 H2 H' : Hp} {σ σ' : L2.St}
theorem Chg.post (k : Chg ts S S' As As' σ σ') (h : ∀ j ∈ ts, j ∈ vs) : Post vs S S' As As' G G H H :=
  ⟨Ex.refl G, fun j hj => let ⟨a, b, _⟩ := k.sl j fun z => hj (h j z); ⟨a, b⟩, fun a o e _ => e, fun j a e => .inl (k.sub j a e), fun _ e => e, k.len, fun _ _ _ => rfl⟩
/-- what was done to wiped slots is wiped -/
theorem Post.unvs (p : Post (vs ++ mods) S0 S As0 As G G' H H') (h0 : ∀ v ∈ vs, As0 v = []) (hs : ∀ v ∈ vs, v < S0.length → S0[v]? = some .no) : Post mods S0 (wipeS S vs) As0 (wipeA As vs) G G' H H' where
  exG := p.exG
  same := fun j hj => by
    by_cases hv : j ∈ vs
    · refine ⟨?_, ?_⟩
      · by_cases hl : j < S0.length
        · rw [wipeS_in hv (by rw [p.len]; exact hl), hs j hv hl]
        · rw [List.getElem?_eq_none (by rw [wipeS_len, p.len]; omega), List.getElem?_eq_none (by omega)]
      · rw [h0 j hv]
        exact if_pos hv
    · obtain ⟨a, b⟩ := p.same j fun z => (List.mem_append.mp z).elim hv hj
      refine ⟨by rw [wipeS_at hv]; exact a, ?_⟩
      rw [← b]
      exact if_neg hv
  frm := fun a o e hn => p.frm a o e fun j hj => by
    rcases List.mem_append.mp hj with z | z
    · rw [h0 j z]; exact fun q => nomatch q
    · exact hn j z
  new := fun j a h => by
    unfold wipeA at h
    split at h
    · cases h
    · rcases p.new j a h with z | ⟨k, hk, z⟩ | z
      · exact .inl z
      · rcases List.mem_append.mp hk with q | q
        · rw [h0 k q] at z; cases z
        · exact .inr (.inl ⟨k, q, z⟩)
      · exact .inr (.inr z)
  stay := p.stay
  len := by rw [wipeS_len]; exact p.len
  gn := fun a e hn => p.gn a e fun j hj => by
    rcases List.mem_append.mp hj with z | z
    · rw [h0 j z]; exact fun q => nomatch q
    · exact hn j z
/-- out of the block: its slots are as they were -/
theorem Post.unwipe (p : Post mods (wipeS S1 vs) S2 (wipeA As1 vs) As2 G G' H H') (h0 : ∀ v ∈ vs, As1 v = []) : Post mods S1 (restS S1 S2 vs) As1 (wipeA As2 vs) G G' H H' := by
  have ea : ∀ j, wipeA As1 vs j = As1 j := fun j => by
    unfold wipeA
    split
    · rename_i h
      exact (h0 j h).symm
    · rfl
  have l2 : S2.length = S1.length := by
    have := p.len
    rw [wipeS_len] at this
    exact this
  refine ⟨p.exG, fun j hj => ?_, fun a o e hn => p.frm a o e fun j hj => by rw [ea]; exact hn j hj, fun j a h => ?_, p.stay, by rw [restS_len]; exact l2, fun a e hn => p.gn a e fun j hj => by rw [ea]; exact hn j hj⟩
  · by_cases hv : j ∈ vs
    · refine ⟨?_, by rw [h0 j hv]; exact if_pos hv⟩
      by_cases hl : j < S2.length
      · exact restS_in hv hl l2.symm
      · rw [List.getElem?_eq_none (by rw [restS_len]; omega), List.getElem?_eq_none (by omega)]
    · obtain ⟨a, b⟩ := p.same j hj
      rw [ea] at b
      refine ⟨by rw [restS_at hv, a, wipeS_at hv], ?_⟩
      rw [← b]
      exact if_neg hv
  · unfold wipeA at h
    split at h
    · cases h
    · rcases p.new j a h with z | ⟨k, hk, z⟩ | z
      · rw [ea] at z; exact .inl z
      · rw [ea] at z; exact .inr (.inl ⟨k, hk, z⟩)
      · exact .inr (.inr z)
/-- an object that was not there ahead may change -/
theorem Post.mut {p : Addr} {o : HO} (q : Post mods S S' As As' G G' H H') (hp0 : H p = none) (hG : H' p ≠ none) : Post mods S S' As As' G G' H (upd H' p o) :=
  ⟨q.exG, q.same, fun a u e hn => by rw [upd_ne (ne_of_none e hp0)]; exact q.frm a u e hn, q.new, fun a h => by
    by_cases e : a = p
    · rw [e, upd_same]; exact fun z => nomatch z
    · rw [upd_ne e]; exact q.stay a h, q.len, q.gn⟩
end
section
variable {c : Ctx} {G : Hp} {S : List Sl} {As : Nat → List Addr} {τ : List V} {σ : L2.St} {H : Hp}
/-- an object that nobody in sight has changes -/
theorem Real.mutOut {p : Addr} {o : HO} (R : Real c G S As τ σ H) (hG : G p = none) (hA : ∀ j, p ∉ As j) (h0 : c.H0 p = none) : Real c G S As τ σ (upd H p o) :=
  ⟨R.exG.mut hG, fun i s e => (R.sl i s e).keep (Ex.refl G) fun a ha u e => by rw [upd_ne fun z => hA i (by rw [← z]; exact ha)]; exact e, R.len, R.emp, R.nd, R.dj, R.nf, R.g0, R.gn,
    fun a u e hn => by rw [upd_ne (ne_of_none e h0)]; exact R.fr0 a u e hn, fun a h => by
      by_cases e : a = p
      · rw [e, upd_same]; exact fun z => nomatch z
      · rw [upd_ne e]; exact R.stay a h, R.fn, R.io⟩
end
/-- one turn after another: the items -/
def cmpGo (g : Tg) (t : M Bool) (e : M D) (vs : List Nat) : List D → List Sl → Out (List D)
  | [] => fun S => .ok [] S
  | d :: ds => fun S => match g d S with
    | none => .bad
    | some S1 => (t S1).bn fun b S2 => match b with
      | true => (e S2).bn fun x S3 => (cmpGo g t e vs ds (wipeS S3 vs)).bn fun xs S4 => .ok (x :: xs) S4
      | false => cmpGo g t e vs ds (wipeS S2 vs)
def mComp (mi : M (List D)) (g : Tg) (t : M Bool) (e : M D) (vs : List Nat) : M O := fun S => (mi S).bd fun ds S1 => match decide (ds.length ≤ 16777216) && vs.all fun v => notOw S1[v]? with
  | true => (cmpGo g t e vs ds (wipeS S1 vs)).bn fun xs S2 => .ok (.lst (xs.map .sh)) (restS S1 S2 vs)
  | false => .bad
section
variable {X : Cx} {c : Ctx} {W : XK} {mods m1 m2 m3 vs ts : List Nat} {elt tg iter : Expr} {mi : M (List D)} {g : Tg} {t : M Bool} {me : M D}
theorem w_comp (hv : ∀ v ∈ vs, v < X.N.length) (hio : ∀ v ∈ vs, v ∉ c.io) (hts : ∀ j ∈ ts, j ∈ vs) (σ : L2.St) (H : Hp) (Q : VK) (hl : σ.length = X.N.length) (h : tO c W (m1 ++ (m2 ++ m3)) (mComp mi g t me vs) σ H Q) :
    tLc (tI c W m1 mi) (gT c ts g) (tT c E00 m2 t) (tE c E00 true m3 me) vs σ H Q := by
  obtain ⟨G, S, As, τ, R, q⟩ := h
  have hv' : ∀ v ∈ vs, v < σ.length := fun v h => by rw [hl]; exact hv v h
  refine ⟨G, S, As, τ, R, fin_mono (fin_bd q) fun ds S1 e1 k => ?_⟩
  intro J G1 As1 H1 R1 P1 Wk D hD
  cases hc1 : decide (ds.length ≤ 16777216) && vs.all fun v => notOw S1[v]? with
  | false =>
    rw [hc1] at k
    exact k.elim
  | true =>
    rw [hc1] at k
    rw [Bool.and_eq_true, List.all_eq_true] at hc1
    have hlen : ds.length ≤ 16777216 := of_decide_eq_true hc1.1
    have hno := hc1.2
    obtain ⟨dH0, dG1, dA1⟩ := R1.fresh hD
    have Rw := R1.wipe hv' hio
    have Rw' : Real c G1 (wipeS S1 vs) (wipeA As1 vs) τ (wipe σ vs) (upd H1 D (.lst [])) := Rw.keep (Keep.new hD)
    have h0 : ∀ v ∈ vs, wipeA As1 vs v = [] := fun v h => if_pos h
    have hs0 : ∀ v ∈ vs, v < (wipeS S1 vs).length → (wipeS S1 vs)[v]? = some .no := fun v h hl => wipeS_in h (by rw [wipeS_len] at hl; exact hl)
    have k0 := fin_bn (W := W) k
    refine ⟨fun i m H2 => m = ds.length - i ∧ i ≤ ds.length ∧ ∃ G2 S2 As2 acc xs, Real c G2 S2 As2 τ (wipe σ vs) H2 ∧ Ex G1 G2 ∧ Post (m2 ++ m3) (wipeS S1 vs) S2 (wipeA As1 vs) As2 G1 G2 H1 H2 ∧ H2 D = some (.lst xs) ∧ RsL c.E G2 acc xs ∧ acc.length ≤ i ∧ G2 D = none ∧ (∀ j, D ∉ As2 j) ∧
        fin c W (cmpGo g t me vs (ds.drop i) S2) (fun ys S3 => ∀ v A G' As' H', Real c G' (restS S1 S3 vs) As' τ σ H' → Post (m1 ++ (m2 ++ m3)) S (restS S1 S3 vs) As As' G G' H H' → Ro c.E G' H' (.lst ((acc ++ ys).map .sh)) v A → New c G' As' A → Frs (m1 ++ (m2 ++ m3)) As H A → Q v H'),
      ⟨ds.length, rfl, Nat.zero_le _, G1, wipeS S1 vs, wipeA As1 vs, [], [], Rw', Ex.refl _, ?_, upd_same, .nil, Nat.zero_le _, dG1, fun j z => ?_, ?_⟩, ?_⟩
    · exact Post.of_keep (Ex.refl _) (Keep.new hD) fun _ _ => rfl
    · unfold wipeA at z
      split at z
      · cases z
      · exact dA1 j z
    · exact fin_mono k0 fun ys S3 _ k1 => k1
    · rintro i m H2 ⟨rfl, hi, G2, S2, As2, acc, xs, R2, x2, P2, hD2, ra, la, dG2, dA2, k2⟩
      have x3 : Ex G1 H2 := x2.trans R2.exG
      by_cases hlt : i < ds.length
      · have ed : ∃ d, ds[i]? = some d ∧ ds.drop i = d :: ds.drop (i + 1) := ⟨ds[i], List.getElem?_eq_getElem hlt, List.drop_eq_getElem_cons hlt⟩
        refine .inr ⟨Wk.go i H2 x3 hlt, fun H3 => ∃ G2 S2 As2 acc xs, Real c G2 S2 As2 τ (wipe σ vs) H3 ∧ Ex G1 G2 ∧ Post (m2 ++ m3) (wipeS S1 vs) S2 (wipeA As1 vs) As2 G1 G2 H1 H3 ∧ H3 D = some (.lst xs) ∧ RsL c.E G2 acc xs ∧ acc.length ≤ i + 1 ∧ G2 D = none ∧ (∀ j, D ∉ As2 j) ∧
            fin c W (cmpGo g t me vs (ds.drop (i + 1)) S2) (fun ys S3 => ∀ v A G' As' H', Real c G' (restS S1 S3 vs) As' τ σ H' → Post (m1 ++ (m2 ++ m3)) S (restS S1 S3 vs) As As' G G' H H' → Ro c.E G' H' (.lst ((acc ++ ys).map .sh)) v A → New c G' As' A → Frs (m1 ++ (m2 ++ m3)) As H A → Q v H'),
          fun H3 q => ⟨ds.length - (i + 1), by omega, rfl, hlt, q⟩, fun x H3 y => ?_⟩
        obtain ⟨d, hd, edr⟩ := ed
        obtain ⟨kp, B, d', hd', nb, ndb, rs⟩ := Wk.yld i H2 x H3 x3 hlt y
        rw [hd] at hd'
        cases hd'
        have R3 := R2.seen kp nb ndb
        have r3 := rs G2 x2 R2.exG
        have nB : ∀ b ∈ B, G2 b = none := fun b hb => (R2.fresh (nb b hb)).2.1
        have DB : D ∉ B := fun z => by rw [nb D z] at hD2; cases hD2
        have x4 : Ex G2 (frz G2 H3 B) := frz_ex nB
        have dG3 : frz G2 H3 B D = none := by rw [frz_out DB]; exact dG2
        have P3 : Post (m2 ++ m3) (wipeS S1 vs) S2 (wipeA As1 vs) As2 G1 (frz G2 H3 B) H1 H3 := by
          have p := P2.trans (Post.of_keep (mods := []) (S := S2) (As := As2) x4 kp fun a h => frz_out fun z => h (nb a z))
          rw [List.append_nil] at p
          exact p
        refine ⟨frz G2 H3 B, S2, As2, τ, d, R3, r3, ?_⟩
        rw [edr] at k2
        have k3 : fin c W (match g d S2 with
          | none => .bad
          | some S1 => (t S1).bn fun b S2 => match b with
            | true => (me S2).bn fun x S3 => (cmpGo g t me vs (ds.drop (i + 1)) (wipeS S3 vs)).bn fun xs S4 => .ok (x :: xs) S4
            | false => cmpGo g t me vs (ds.drop (i + 1)) (wipeS S2 vs)) _ := k2
        cases hg : g d S2 with
        | none =>
          rw [hg] at k3
          exact k3.elim
        | some S3 =>
          rw [hg] at k3
          intro σ3 As3 R4 C4
          have ew : wipe σ3 vs = wipe σ vs := by
            have z := wipe_eq (vs := vs) (fun j hj => (C4.sl j hj).2.2) C4.lenσ hts
            rw [z]
            exact wipe_eq (ts := vs) (fun j hj => wipe_out2 hj) (wipe_length _ _) fun _ h => h
          have hv3 : ∀ v ∈ vs, v < σ3.length := fun v h => by
            rw [C4.lenσ, wipe_length]; exact hv' v h
          refine ⟨ew, frz G2 H3 B, S3, As3, τ, R4, fin_mono (fin_bn k3) fun b S4 e4 k4 => ?_⟩
          intro G4 As4 H4 R5 P5
          have P4 : Post ((m2 ++ m3) ++ vs) (wipeS S1 vs) S3 (wipeA As1 vs) As3 G1 (frz G2 H3 B) H1 H3 := P3.trans (C4.post hts)
          have P6 := P4.trans P5
          have D3 : ∀ j, D ∉ As3 j := fun j z => dA2 j (C4.sub j D z)
          have hD3 : H3 D = some (.lst xs) := kp D _ hD2
          have D4 : ∀ j, D ∉ As4 j := fun j z => by
            rcases P5.new j D z with q | ⟨k', _, q⟩ | q
            · exact D3 j q
            · exact D3 k' q
            · rw [hD3] at q; cases q
          have hD4 : H4 D = some (.lst xs) := P5.frm D _ hD3 fun j _ => D3 j
          have G4D : G4 D = none := by
            rw [P5.gn D (by rw [hD3]; exact fun z => nomatch z) fun j _ => D3 j]
            exact dG3
          have x5 : Ex G2 G4 := x4.trans P5.exG
          have out : ∀ {As5 : Nat → List Addr}, (∀ j, D ∉ As5 j) → ∀ j, D ∉ wipeA As5 vs j := fun h j z => by
            unfold wipeA at z
            split at z
            · cases z
            · exact h j z
          cases b with
          | false =>
            rw [if_neg Bool.false_ne_true]
            have P7 : Post (vs ++ (m2 ++ m3)) (wipeS S1 vs) S4 (wipeA As1 vs) As4 G1 G4 H1 H4 := P6.mono fun j hj => by
              simp only [List.mem_append] at hj ⊢
              rcases hj with ((h | h) | h) | h
              · exact .inr (.inl h)
              · exact .inr (.inr h)
              · exact .inl h
              · exact .inr (.inl h)
            have R6 := R5.wipe hv3 hio
            rw [ew] at R6
            exact ⟨G4, wipeS S4 vs, wipeA As4 vs, acc, xs, R6, x2.trans x5, P7.unvs h0 hs0, hD4, RsL.mono x5 ra, by omega, G4D, out D4, k4⟩
          | true =>
            rw [if_pos rfl]
            refine ⟨G4, S4, As4, τ, R5, fin_mono (fin_bn k4) fun x S5 e5 k5 => ?_⟩
            intro v G5 As5 H5 R6 P8 r6
            have hD5 : H5 D = some (.lst xs) := P8.frm D _ hD4 fun j _ => D4 j
            have D5 : ∀ j, D ∉ As5 j := fun j z => by
              rcases P8.new j D z with q | ⟨k', _, q⟩ | q
              · exact D4 j q
              · exact D4 k' q
              · rw [hD4] at q; cases q
            have G5D : G5 D = none := by
              rw [P8.gn D (by rw [hD4]; exact fun z => nomatch z) fun j _ => D4 j]
              exact G4D
            have lx : xs.length < sizeLine := by
              have := RsL.length ra
              rw [sizeLine_eq]
              omega
            refine ⟨xs, hD5, lx, ?_⟩
            have P7 : Post (vs ++ (m2 ++ m3)) (wipeS S1 vs) S5 (wipeA As1 vs) As5 G1 G5 H1 H5 := (P6.trans P8).mono fun j hj => by
              simp only [List.mem_append] at hj ⊢
              rcases hj with (((h | h) | h) | h) | h
              · exact .inr (.inl h)
              · exact .inr (.inr h)
              · exact .inl h
              · exact .inr (.inl h)
              · exact .inr (.inr h)
            have R7 := R6.wipe hv3 hio
            rw [ew] at R7
            have R8 := R7.mutOut (o := .lst (xs ++ [v])) G5D (out D5) dH0
            have ra5 : RsL c.E G5 (acc ++ [x]) (xs ++ [v]) := .append (RsL.mono (x5.trans P8.exG) ra) (.cons r6 .nil)
            refine ⟨G5, wipeS S5 vs, wipeA As5 vs, acc ++ [x], xs ++ [v], R8, x2.trans (x5.trans P8.exG), (P7.unvs h0 hs0).mut hD (by rw [hD5]; exact fun z => nomatch z), upd_same, ra5, ?_, G5D, out D5, ?_⟩
            · rw [List.length_append]
              show acc.length + 1 ≤ i + 1
              omega
            · refine fin_mono (fin_bn (W := W) k5) fun ys S6 _ k6 => ?_
              rw [List.append_assoc]
              exact k6
      · have e : i = ds.length := by omega
        subst e
        rw [List.drop_length] at k2
        refine .inl ⟨Wk.stop _ H2 x3 (Nat.le_refl _), ?_⟩
        have A0 : ∀ v ∈ vs, As1 v = [] := fun v hvv => by
          have hl := hv' v hvv
          have hs : v < S1.length := by rw [R1.len]; omega
          have q := R1.sl v _ (List.getElem?_eq_getElem hs)
          have n := hno v hvv
          rw [List.getElem?_eq_getElem hs] at n
          cases e : S1[v] with
          | no => rw [e] at q; exact q
          | pl d => rw [e] at q; exact q.1
          | ow o => rw [e] at n; cases n
        refine k2 (.ref D) [D] G2 (wipeA As2 vs) H2 (R2.unwipe R1 x2 hv' hio hno) (P1.trans (P2.unwipe A0)) ?_ ⟨?_, ?_, ?_, ?_⟩ (Frs.mono (Frs.one P1 hD) fun j hj => List.mem_append_left _ hj)
        · unfold Ro
          rw [List.append_nil]
          exact ⟨D, xs, [], rfl, rfl, hD2, RoL.sh ra⟩
        · exact List.nodup_cons.mpr ⟨fun z => (nomatch z), List.nodup_nil⟩
        · intro a ha
          obtain rfl : a = D := by simpa using ha
          exact dH0
        · intro a ha
          obtain rfl : a = D := by simpa using ha
          exact dG2
        · intro a ha j z
          obtain rfl : a = D := by simpa using ha
          unfold wipeA at z
          split at z
          · cases z
          · exact dA2 j z
/-- [elt for tg in iter if ..], the items shared -/
theorem zComp {scope : Scope} {own : List (Str × Nat)} {pos : Pos} {ifs : List Expr} (hc : X.calm = true) (hN : X.N.Nodup) (hi : PI X tg iter (tI c W m1 mi)) (ok : BlkOk X.N X.env.scope scope own) (hvs : own.map (·.2) = vs) (hv : ∀ v ∈ vs, v < X.N.length) (hio : ∀ v ∈ vs, v ∉ c.io) (hts : ∀ j ∈ ts, j ∈ vs)
    (hg : ∀ (s : Shared) (H : Hp) (C : Addr) (cl : List (Str × Addr)) (fp : List Addr), PG (X.blk s H scope (compEnvC scope cl C X.env) fp) tg (gT c ts g)) (ht : ∀ (s : Shared) (H : Hp) (C : Addr) (cl : List (Str × Addr)) (fp : List Addr), PTs (X.blk s H scope (compEnvC scope cl C X.env) fp) ifs (tT c E00 m2 t))
    (he : ∀ (s : Shared) (H : Hp) (C : Addr) (cl : List (Str × Addr)) (fp : List Addr), PE (X.blk s H scope (compEnvC scope cl C X.env) fp) elt (tE c E00 true m3 me)) (hs : ∀ x, foldedSetIterable iter X.env x = pure x := by intro _; rfl) :
    PE X (.ListComp elt [⟨tg, iter, ifs, 0⟩] scope pos) (tO c W (m1 ++ (m2 ++ m3)) (mComp mi g t me vs)) := by
  subst hvs
  exact PEl (pe_lc hc hN hi ok hg ht he hs) (w_comp hv hio hts)
def mYes : M Bool := mC true
theorem zNoIf : PTs X [] (tT c W [] mYes) := ⟨fun pins s σ H Q I ⟨G, S, As, τ, R, q⟩ => pts_nil.run pins s σ H Q I (q G As H R Post.refl)⟩
theorem zIf1 {e : Expr} (h : PT X e (tT c W mods t)) : PTs X [e] (tT c W mods t) := pts_one h
/-- x = [elt for tg in iter if ..] -/
theorem zOwnC {i : Nat} {y : Str} {py : Pos} {scope : Scope} {own : List (Str × Nat)} {pos spos : Pos} {ifs : List Expr} (hc : X.calm = true) (hN : X.N.Nodup) (hy : X.N[i]? = some y) (hyl : X.env.scope.names.lookup y = some .local) (hyo : i ∉ c.io)
    (hsw : swapsWith (.ListComp elt [⟨tg, iter, ifs, 0⟩] scope pos) (some (.Name y py)) spos.line X.env = pure true) (hi : PI X tg iter (tI c W m1 mi)) (ok : BlkOk X.N X.env.scope scope own) (hvs : own.map (·.2) = vs) (hv : ∀ v ∈ vs, v < X.N.length) (hio : ∀ v ∈ vs, v ∉ c.io) (hts : ∀ j ∈ ts, j ∈ vs)
    (hg : ∀ (s : Shared) (H : Hp) (C : Addr) (cl : List (Str × Addr)) (fp : List Addr), PG (X.blk s H scope (compEnvC scope cl C X.env) fp) tg (gT c ts g)) (ht : ∀ (s : Shared) (H : Hp) (C : Addr) (cl : List (Str × Addr)) (fp : List Addr), PTs (X.blk s H scope (compEnvC scope cl C X.env) fp) ifs (tT c E00 m2 t))
    (he : ∀ (s : Shared) (H : Hp) (C : Addr) (cl : List (Str × Addr)) (fp : List Addr), PE (X.blk s H scope (compEnvC scope cl C X.env) fp) elt (tE c E00 true m3 me)) (hs : ∀ x, foldedSetIterable iter X.env x = pure x := by intro _; rfl) :
    PS X (.Assign [.Name y py] (.ListComp elt [⟨tg, iter, ifs, 0⟩] scope pos) spos) (tS c W (sOwn (mComp mi g t me vs) i)) := by
  subst hvs
  refine PSl (ps_setLc hc hN hy hyl hsw hi ok hg ht he hs) fun D σ H hl h => ?_
  exact w_own (List.getElem?_eq_some_iff.mp hy).1 hyo D σ H hl h |> fun q => by
    have q' : tO c W (m1 ++ (m2 ++ m3)) (mComp mi g t me (own.map (·.2))) σ H (fun x H1 => gName i x σ H1 D.nx) := q
    exact w_comp hv hio hts σ H _ hl q'
/-- the same, kept as shared data -/
theorem zAsgC {i : Nat} {y : Str} {py : Pos} {scope : Scope} {own : List (Str × Nat)} {pos spos : Pos} {ifs : List Expr} (hc : X.calm = true) (hN : X.N.Nodup) (hy : X.N[i]? = some y) (hyl : X.env.scope.names.lookup y = some .local) (hyo : i ∉ c.io)
    (hsw : swapsWith (.ListComp elt [⟨tg, iter, ifs, 0⟩] scope pos) (some (.Name y py)) spos.line X.env = pure true) (hi : PI X tg iter (tI c W m1 mi)) (ok : BlkOk X.N X.env.scope scope own) (hvs : own.map (·.2) = vs) (hv : ∀ v ∈ vs, v < X.N.length) (hio : ∀ v ∈ vs, v ∉ c.io) (hts : ∀ j ∈ ts, j ∈ vs)
    (hg : ∀ (s : Shared) (H : Hp) (C : Addr) (cl : List (Str × Addr)) (fp : List Addr), PG (X.blk s H scope (compEnvC scope cl C X.env) fp) tg (gT c ts g)) (ht : ∀ (s : Shared) (H : Hp) (C : Addr) (cl : List (Str × Addr)) (fp : List Addr), PTs (X.blk s H scope (compEnvC scope cl C X.env) fp) ifs (tT c E00 m2 t))
    (he : ∀ (s : Shared) (H : Hp) (C : Addr) (cl : List (Str × Addr)) (fp : List Addr), PE (X.blk s H scope (compEnvC scope cl C X.env) fp) elt (tE c E00 true m3 me)) (hs : ∀ x, foldedSetIterable iter X.env x = pure x := by intro _; rfl) :
    PS X (.Assign [.Name y py] (.ListComp elt [⟨tg, iter, ifs, 0⟩] scope pos) spos) (tS c W (sAsg (mFr (mComp mi g t me vs)) (gNm i))) := by
  subst hvs
  refine PSl (ps_setLc hc hN hy hyl hsw hi ok hg ht he hs) fun D σ H hl ⟨G, S, As, R, q⟩ => ?_
  have hlt : i < σ.length := by rw [hl]; exact (List.getElem?_eq_some_iff.mp hy).1
  refine w_comp hv hio hts σ H _ hl ⟨G, S, As, [], R, fin_mono (fin_bd (ok_sd q)) fun o S1 e1 k => ?_⟩
  intro v A G1 As1 H1 R1 P1 r1 N1 F1
  exact k _ _ _ _ ((R1.freeze N1).put (s := .pl (fr o)) (v := v) (A := []) hlt hyo New.nil ⟨rfl, v, rfl, R1.frozen N1 r1⟩)
end
end Z

/-! Z7: defs: what they promise, how they are called. -/
namespace Z
open PySem PySem.Spec PyProof.Rows L2
abbrev Fn := List Sl → Out O
def mkFn (n : Nat) (b : MS) : Fn := fun args => match b (args ++ List.replicate (n - args.length) .no) with
  | .ret o S => .ok o S
  | .next S => .ok (.sh .non) S
  | .exc C fs ds S => .exc C fs ds S
  | _ => .bad
/-- what stands at a call: the arguments, those of io own things -/
structure Ent (E : Ev) (io : List Nat) (G H : Hp) (args : List Sl) (vs : List V) (As : Nat → List Addr) : Prop where
  exG : Ex G H
  len : args.length = vs.length
  sl : ∀ i s, args[i]? = some s → SlOk E G H s (vs[i]?.map some) (As i)
  iow : ∀ i ∈ io, ∃ o, args[i]? = some (.ow o)
  emp : ∀ i, i ∉ io → As i = []
  nd : ∀ i, (As i).Nodup
  dj : ∀ i j a, a ∈ As i → a ∈ As j → i = j
  nf : ∀ i a, a ∈ As i → G a = none
/-- what stands behind it -/
structure Exi (E : Ev) (io : List Nat) (G H : Hp) (vs : List V) (As : Nat → List Addr) (S' : List Sl) (As' : Nat → List Addr) (G' H' : Hp) (A : List Addr) : Prop where
  exG : Ex G' H'
  grow : Ex G G'
  gn : ∀ a, H a ≠ none → G' a = G a
  frm : ∀ a o, H a = some o → (∀ i ∈ io, a ∉ As i) → H' a = some o
  stay : ∀ a, H a ≠ none → H' a ≠ none
  sl : ∀ i ∈ io, ∃ o w, S'[i]? = some (.ow o) ∧ vs[i]? = some w ∧ Ro E G' H' o w (As' i)
  nd : ∀ i ∈ io, (As' i).Nodup
  dj : ∀ i ∈ io, ∀ j ∈ io, ∀ a, a ∈ As' i → a ∈ As' j → i = j
  nf : ∀ i ∈ io, ∀ a ∈ As' i, G' a = none ∧ (H a = none ∨ a ∈ As i)
  rnd : A.Nodup
  rnf : ∀ a ∈ A, G' a = none ∧ H a = none ∧ ∀ i ∈ io, a ∉ As' i
/-- the promise of a def whose mirror is f -/
def spM (E : Ev) (n : Nat) (io : List Nat) (f : Fn) : Sp := fun vs H Q X => vs.length = n ∧ ∃ G args As, Ent E io G H args vs As ∧ match f args with
  | .ok o S' => ∀ v A G' As' H', Exi E io G H vs As S' As' G' H' A → Ro E G' H' o v A → Q v H'
  | .exc C fs ds S' => ∀ G' As' H' dd, Exi E io G H vs As S' As' G' H' [] → ExcAt E G' H' fs ds dd → X (.ref (E.ca C)) dd H'
  | .bad => False
/-- the body's context -/
def ctxOf (E : Ev) (io : List Nat) (G H : Hp) (vs : List V) (As : Nat → List Addr) : Ctx := ⟨E, G, H, As, io, vs⟩
theorem start_real {E : Ev} {io : List Nat} {G H : Hp} {args : List Sl} {vs : List V} {As : Nat → List Addr} {N : List Str} (h : Ent E io G H args vs As) :
    Real (ctxOf E io G H vs As) G (args ++ List.replicate (N.length - args.length) .no) As [] (L2.start N vs) H where
  exG := h.exG
  sl := fun i s e => by
    have e0 : env (L2.start N vs) [] = L2.start N vs := List.append_nil _
    rw [e0]
    by_cases hi : i < args.length
    · rw [List.getElem?_append_left hi] at e
      have q := h.sl i s e
      have e1 : (L2.start N vs)[i]? = vs[i]?.map some := by
        unfold L2.start
        rw [List.getElem?_append_left (by rw [List.length_map, ← h.len]; exact hi), List.getElem?_map]
      rw [e1]
      exact q
    · rw [List.getElem?_append_right (by omega)] at e
      have := List.eq_of_mem_replicate (List.mem_of_getElem? e)
      subst this
      refine h.emp i fun z => ?_
      obtain ⟨o, ho⟩ := h.iow i z
      exact hi (List.getElem?_eq_some_iff.mp ho).1
  len := by
    unfold L2.start
    simp only [List.length_append, List.length_replicate, List.length_map, List.length_nil]
    have := h.len
    omega
  emp := fun i hi => by
    rw [List.length_append] at hi
    refine h.emp i fun z => ?_
    obtain ⟨o, ho⟩ := h.iow i z
    have := (List.getElem?_eq_some_iff.mp ho).1
    omega
  nd := h.nd
  dj := h.dj
  nf := h.nf
  g0 := Ex.refl G
  gn := fun _ _ => rfl
  fr0 := fun a o e _ => e
  stay := fun _ e => e
  fn := fun i a ha => by
    right
    refine ⟨?_, ha⟩
    apply Classical.byContradiction
    intro z
    rw [h.emp i z] at ha
    cases ha
  io := fun i hi => by
    obtain ⟨o, ho⟩ := h.iow i hi
    have hl := (List.getElem?_eq_some_iff.mp ho).1
    obtain ⟨v, hv, _⟩ := h.sl i _ ho
    have hv' : vs[i]? = some v := by
      rw [Option.map_eq_some_iff] at hv
      obtain ⟨w, h1, h2⟩ := hv
      cases h2
      exact h1
    refine ⟨o, v, by rw [List.getElem?_append_left hl]; exact ho, hv', ?_⟩
    unfold L2.start
    rw [List.getElem?_append_left (by rw [List.length_map, ← h.len]; exact hl), List.getElem?_map, hv']
    rfl
theorem exit_real {E : Ev} {io : List Nat} {G H : Hp} {vs : List V} {As : Nat → List Addr} {G' H' : Hp} {S' : List Sl} {As' : Nat → List Addr} {τ : List V} {σ : L2.St} {A : List Addr}
    (R : Real (ctxOf E io G H vs As) G' S' As' τ σ H') (N : New (ctxOf E io G H vs As) G' As' A) : Exi E io G H vs As S' As' G' H' A where
  exG := R.exG
  grow := R.g0
  gn := R.gn
  frm := R.fr0
  stay := R.stay
  sl := fun i hi => by
    obtain ⟨o, v, h1, h2, h3⟩ := R.io i hi
    obtain ⟨w, h4, h5⟩ := R.sl i _ h1
    rw [env_lt (List.getElem?_eq_some_iff.mp h3).1, h3] at h4
    cases h4
    exact ⟨o, v, h1, h2, h5⟩
  nd := fun i _ => R.nd i
  dj := fun i _ j _ a => R.dj i j a
  nf := fun i hi a ha => ⟨R.nf i a ha, (R.fn i a ha).imp id fun z => z.2⟩
  rnd := N.nd
  rnf := fun a ha => ⟨N.g a ha, N.h0 a ha, fun i _ => N.out a ha i⟩
/-- a body that means its mirror keeps the promise -/
theorem body_ok {E : Ev} {n : Nat} {io : List Nat} {N : List Str} {b : MS} {vs : List V} {H : Hp} {Q : VK} {X : XK} (h : spM E n io (mkFn N.length b) vs H Q X) :
    ∃ c : Ctx, c.E = E ∧ c.io = io ∧ tS c X b { nx := fun _ H' => Q .non H', rt := Q } (L2.start N vs) H := by
  obtain ⟨hn, G, args, As, En, q⟩ := h
  refine ⟨ctxOf E io G H vs As, rfl, rfl, G, _, As, start_real (N := N) En, ?_⟩
  unfold mkFn at q
  cases hb : b (args ++ List.replicate (N.length - args.length) .no) with
  | next S1 =>
    simp only [hb] at q
    intro G1 As1 σ1 H1 R1
    exact q .non [] G1 As1 H1 (exit_real R1 New.nil) (by unfold Ro; exact ⟨rfl, by unfold Rs; rfl⟩)
  | ret o S1 =>
    simp only [hb] at q
    intro v A G1 As1 τ1 σ1 H1 R1 r1 N1
    exact q v A G1 As1 H1 (exit_real R1 N1) r1
  | brk S1 =>
    simp only [hb] at q
  | cont S1 =>
    simp only [hb] at q
  | exc C fs ds S1 =>
    simp only [hb] at q
    intro G1 As1 τ1 σ1 H1 dd R1 x1
    exact q G1 As1 H1 dd (exit_real R1 New.nil) x1
  | bad =>
    simp only [hb] at q

/-! ### a def, where no repr is under way -/
structure FnG (P : Program) (w : World) (K : PySem.W.Frag) (mg : Str → Option Value) (base : Heap) (CX : CXT) (k : Nat) (f : Addr) (fd : FuncData) (ps : List Str) (sp : Sp) : Prop where
  len : ∀ vs H Q E, sp vs H Q E → vs.length = ps.length
  run : ∀ (A : Around) (outer : List Env) (s : Shared) (H : Hp) (args : Args) (us : List Value) (vs : List V) (Q : VK) (E : XK), Room k A → A.guards = some [] → Env0 P w K mg base A outer s H →
    BindsTo s fd args (ps.zip us) → Vals vs us → sp vs H Q E → codeAny (model P w) A (.call (.ref f) args) (CR CX outer P w H s Q E) s
theorem FnG.mono {P : Program} {w : World} {K : PySem.W.Frag} {mg : Str → Option Value} {base : Heap} {CX : CXT} {j k : Nat} {f : Addr} {fd : FuncData} {ps : List Str} {sp : Sp} (F : FnG P w K mg base CX j f fd ps sp) (h : j ≤ k) :
    FnG P w K mg base CX k f fd ps sp := ⟨F.len, fun A o s H args us vs Q E hr hg => F.run A o s H args us vs Q E (hr.mono h) hg⟩
section
variable {X : Cx} {CX : CXT} {k : Nat} {f C : Addr} {fd : FuncData} {ps : List Str} {sp : Sp} {dvs : List V} {ds : List Value} {E : XK} {x m : Str} {p pos apos : Pos} {e o : Expr} {es : List Expr} {ta : TE} {t : TA}
theorem runG {pins : List (Addr × Obj)} {σ : L2.St} {H : Hp} {s : Shared} {Q : VK} {us : List Value} {vs : List V} (F : FnG X.prog X.w X.K X.mg X.base CX k f fd ps sp) (hr : Room k X.A) (hgd : X.A.guards = some []) (hb : Binds X.K fd ps ds) (hd : Vals dvs ds)
    (hx : Passes CX X E) (I : Inv X pins σ H s) (r : Vals vs us) (h : sp (vs ++ dvs) H Q E) : wpAny (model X.prog X.w) X.A (call (.ref f) us) (EP X pins σ Q) X.xe s := by
  have rr : Vals (vs ++ dvs) (us ++ ds) := r.append hd
  have ll : (us ++ ds).length = ps.length := rr.length.symm.trans (F.len _ _ _ _ h)
  have body := F.run X.A X.stack s H ⟨us, []⟩ (us ++ ds) (vs ++ dvs) Q E hr hgd I.env0 (hb s us I.kIn ll) rr h
  refine wpAny_call (codeAny_mono body fun res s2 hres => ?_)
  match res, hres with
  | .error e2, hres => exact hx pins σ H s e2 s2 I hres
  | .ok (.ret u2), hres => exact I.after hres
theorem pe_callG (F : FnG X.prog X.w X.K X.mg X.base CX k f fd ps sp) (hr : Room k X.A) (hgd : X.A.guards = some []) (hg : Gl X x) (hm : X.mg x = some (.ref f)) (hk : PySem.W.keepIn X.K (.ref f) = true) (hb : Binds X.K fd ps ds) (hd : Vals dvs ds) (hx : Passes CX X E)
    (ha : PA X (e :: es) t) (hdb : (x == ("__debug__" : Str)) = false := by decide) (he : starEach (e :: es) X.env = (false, eval e X.env) :: starEach es X.env := by rfl) (hpl : (backTo pos (starEach es X.env)).any (·.1) = false := by rfl) :
    PE X (.Call (.Name x p) (e :: es) [] pos) (tCall sp dvs E t) := ⟨fun pins s σ H Q I h => by
  have arg := ha.run pos pins s σ H _ I h
  exact wpAny_Call_Name_kw (ld_glob I hg hm (PySem.W.callWith_K (h₀ := X.base) I.ok.mod.kin hk (thn arg fun us s1 hq => by
    obtain ⟨vs, H1, I1, r, q⟩ := hq
    exact ⟨I1.kIn, runG F hr hgd hb hd hx I1 r q⟩) he hpl) hdb)⟩
end
section
variable {P : Program} {w : World} {K : PySem.W.Frag} {mg : Str → Option Value} {base : Heap} {x qual : Str} {params : Arguments} {body : List Stmt} {scope : Scope} {dvs : List V} {kws : List (Str × V)} {f : Addr} {fd : FuncData}
/-- a def's body, walked as its mirror says -/
theorem okG {E : Ev} {n : Nat} {io : List Nat} {N ps : List Str} {k : Nat} {b : MS} (F : FunD K x qual params body scope dvs kws f fd) (S : FnScope N ps scope) (hn : ps.length = n)
    (hbody : ∀ (cdv : Value) (A : Around) (outer : List Env) (s : Shared) (H : Hp) (X : XK) (c : Ctx), Room k (A.deeper (envOfC qual scope s.heap.objs.size f cdv)) → A.guards = some [] → c.E = E → c.io = io →
      PSs (cxOf (L2.CX P w) P w K mg base N qual scope f cdv A outer s H X) body (tS c X b)) : FnG P w K mg base (L2.CX P w) (k + 1) f fd ps (spM E n io (mkFn N.length b)) := by
  refine ⟨fun vs H Q X h => h.1.trans hn.symm, fun A outer s H args us vs Q X hr hgd e0 hb r hsp => ?_⟩
  obtain ⟨oc, od, dV, kV, doc, pm, an, cdv, ct, osl, rfl, lk, hcd, _, _⟩ := F.ex
  have hz : vs.length = ps.length := hsp.1.trans hn.symm
  have kin : K.In s.heap := e0.mod.kin.keeps (fun a ob q => (e0.bs a ob q).1)
  have nol : s.heap.NoLimit := e0.mod.nolimit.keeps (fun a ob q => (e0.bs a ob q).1)
  have kinds : ∀ z ∈ ps.zip us, scope.names.lookup z.1 = some .local ∨ (scope.names.lookup z.1 = some .cell ∧ ((cellsFrom (s.heap.objs.size + 1) scope.names []).lookup z.1).isSome = true) := by
    rintro ⟨nm, u⟩ hz
    have hp := S.par nm (List.of_mem_zip hz).1
    rcases hp with hp | hp
    · exact Or.inl hp
    · exact Or.inr ⟨hp, PySem.W.cellsFrom_some _ _ _ (Or.inl hp)⟩
  refine codeAny_call_function hr.depth (kin _ _ lk) rfl S.co S.gen rfl (PySem.W.codeRec_of kin hcd) (hb _ _ _ _ ?_)
  refine wpAny_newFunctionEnv_cells S.kind kinds fun env2 he2 s2 st2 => ?_
  subst he2
  refine ⟨nol.keeps st2.toInCall.keep, codeAny_func ?_⟩
  obtain ⟨c, hcE, hcio, hq⟩ := body_ok hsp
  have I := inv_start (CX := L2.CX P w) (E := X) S hr.hd e0 hz r st2
  have dr := hbody cdv A outer s H X c (hr.deeper _) hgd hcE hcio
  refine wpAny_mono (dr.run [] _ (L2.start N vs) H _ I hq) (fun fl s3 h3 => ?_) fun e2 s3 h3 => h3
  have done : ∀ {σ2 : L2.St} {H2 : Hp} {v : V} {u : Value}, Inv (cxOf (L2.CX P w) P w K mg base N qual scope f cdv A outer s H X) [] σ2 H2 s3 → RelV v u → Q v H2 → CE outer P w H s Q u s3 := by
    intro σ2 H2 v u J rv q
    exact ⟨v, H2, J.os, J.bare, J.base, J.hok, rv, q⟩
  cases fl with
  | ret u =>
    obtain ⟨v, σ2, H2, J, rv, q⟩ := h3
    exact done J rv q
  | next =>
    obtain ⟨σ2, H2, J, q⟩ := h3
    exact done (v := V.non) (u := Value.none) J rfl q
  | brk =>
    obtain ⟨σ2, H2, J, q⟩ := h3
    exact q.elim
  | cont =>
    obtain ⟨σ2, H2, J, q⟩ := h3
    exact q.elim
end
end Z

/-! Z8: calls of defs. -/
namespace Z
open PySem PySem.Spec PyProof.Rows L2
/-- an argument: data, a slot that is shown, a slot that is lent -/
inductive Av where
  | d (d : D) | s (i : Nat) | b (i : Nat)
def AvOk (E : Ev) (G : Hp) (σ : L2.St) : List Av → List V → Prop
  | [], vs => vs = []
  | .d d :: r, vs => ∃ v ws, vs = v :: ws ∧ Rs E G d v ∧ AvOk E G σ r ws
  | .s i :: r, vs => ∃ v ws, vs = v :: ws ∧ σ[i]? = some (some v) ∧ AvOk E G σ r ws
  | .b i :: r, vs => ∃ v ws, vs = v :: ws ∧ σ[i]? = some (some v) ∧ AvOk E G σ r ws
theorem AvOk.mono {E : Ev} {G G' : Hp} {σ : L2.St} (e : Ex G G') : ∀ {as : List Av} {vs : List V}, AvOk E G σ as vs → AvOk E G' σ as vs
  | [], _, h => h
  | .d d :: r, vs, h => by
    obtain ⟨v, ws, h1, h2, h3⟩ := h
    exact ⟨v, ws, h1, Rs.mono e h2, AvOk.mono e h3⟩
  | .s i :: r, vs, h => by
    obtain ⟨v, ws, h1, h2, h3⟩ := h
    exact ⟨v, ws, h1, h2, AvOk.mono e h3⟩
  | .b i :: r, vs, h => by
    obtain ⟨v, ws, h1, h2, h3⟩ := h
    exact ⟨v, ws, h1, h2, AvOk.mono e h3⟩
/-- the lent slots by their places among the arguments -/
def lentAt : Nat → List Av → List (Nat × Nat)
  | _, [] => []
  | p, .b i :: r => (p, i) :: lentAt (p + 1) r
  | p, _ :: r => lentAt (p + 1) r
def shown : List Av → List Nat
  | [] => []
  | .s i :: r => i :: shown r
  | _ :: r => shown r
/-- the slots that stand among the arguments -/
def AvIn (bs : List Nat) (σ : L2.St) (as : List Av) : Prop := (∀ i, Av.b i ∈ as → i ∈ bs ∧ i < σ.length) ∧ ∀ i, Av.s i ∈ as → i < σ.length
theorem AvIn.nil {bs : List Nat} {σ : L2.St} : AvIn bs σ [] := ⟨fun _ h => (nomatch h), fun _ h => (nomatch h)⟩
theorem AvIn.d {bs : List Nat} {σ : L2.St} {d : D} {as : List Av} (h : AvIn bs σ as) : AvIn bs σ (.d d :: as) :=
  ⟨fun i hi => (List.mem_cons.mp hi).elim (fun e => nomatch e) (h.1 i), fun i hi => (List.mem_cons.mp hi).elim (fun e => nomatch e) (h.2 i)⟩
theorem AvIn.s {bs : List Nat} {σ : L2.St} {j : Nat} {as : List Av} (h : AvIn bs σ as) (hj : j < σ.length) : AvIn bs σ (.s j :: as) :=
  ⟨fun i hi => (List.mem_cons.mp hi).elim (fun e => nomatch e) (h.1 i), fun i hi => (List.mem_cons.mp hi).elim (fun e => by cases e; exact hj) (h.2 i)⟩
theorem AvIn.b {bs : List Nat} {σ : L2.St} {j : Nat} {as : List Av} (h : AvIn bs σ as) (hb : j ∈ bs) (hj : j < σ.length) : AvIn bs σ (.b j :: as) :=
  ⟨fun i hi => (List.mem_cons.mp hi).elim (fun e => by cases e; exact ⟨hb, hj⟩) (h.1 i), fun i hi => (List.mem_cons.mp hi).elim (fun e => nomatch e) (h.2 i)⟩
theorem AvIn.append {bs : List Nat} {σ : L2.St} {as zs : List Av} (h : AvIn bs σ as) (k : AvIn bs σ zs) : AvIn bs σ (as ++ zs) :=
  ⟨fun i hi => (List.mem_append.mp hi).elim (h.1 i) (k.1 i), fun i hi => (List.mem_append.mp hi).elim (h.2 i) (k.2 i)⟩
theorem lent_mem {as : List Av} : ∀ {k : Nat} {p : Nat × Nat}, p ∈ lentAt k as → Av.b p.2 ∈ as := by
  induction as with
  | nil => intro k p h; cases h
  | cons a r ih =>
    intro k p h
    cases a with
    | d x => exact List.mem_cons_of_mem _ (ih h)
    | s x => exact List.mem_cons_of_mem _ (ih h)
    | b x =>
      rcases List.mem_cons.mp h with e | h
      · rw [e]; exact List.mem_cons_self
      · exact List.mem_cons_of_mem _ (ih h)
theorem shown_mem {as : List Av} {i : Nat} (h : i ∈ shown as) : Av.s i ∈ as := by
  induction as with
  | nil => cases h
  | cons a r ih =>
    cases a with
    | d x => exact List.mem_cons_of_mem _ (ih h)
    | b x => exact List.mem_cons_of_mem _ (ih h)
    | s x =>
      rcases List.mem_cons.mp h with e | h
      · rw [e]; exact List.mem_cons_self
      · exact List.mem_cons_of_mem _ (ih h)
def tAg (c : Ctx) (X : XK) (mods bs : List Nat) (m : M (List Av)) : TA := fun σ H Q => ∃ G S As τ, Real c G S As τ σ H ∧ fin c X (m S) fun as S' =>
  ∀ vs G' As' H', Real c G' S' As' τ σ H' → Post mods S S' As As' G G' H H' → AvOk c.E G' (env σ τ) as vs → AvIn bs σ as → Q vs H'
def aD (m : M D) : M Av := fun S => (m S).bd fun d S => .ok (.d d) S
def isOw : Option Sl → Bool
  | some (.ow _) => true
  | _ => false
def aS (i : Nat) : M Av := fun S => match isOw S[i]? with
  | true => .ok (.s i) S
  | false => .bad
def aB (i : Nat) : M Av := fun S => match isOw S[i]? with
  | true => .ok (.b i) S
  | false => .bad
theorem isOw_some {x : Option Sl} (h : isOw x = true) : ∃ o, x = some (.ow o) := by
  cases x with
  | none => cases h
  | some s => cases s with
    | ow o => exact ⟨o, rfl⟩
    | _ => cases h
section
variable {X : Cx} {c : Ctx} {W : XK} {mods m1 m2 bs : List Nat} {e : Expr} {es : List Expr} {ma : M D} {mr : M (List Av)} {t0 : TE} {t1 t' : TA}
theorem PAl {t : TA} (h : PA X es t) (w : ∀ σ H Q, σ.length = X.N.length → t' σ H Q → t σ H Q) : PA X es t' := ⟨fun p pins s σ H Q I q => h.run p pins s σ H Q I (w σ H Q I.len q)⟩
theorem PKl {t : TA} {kws : List Keyword} (h : PK X kws t) (w : ∀ σ H Q, σ.length = X.N.length → t' σ H Q → t σ H Q) : PK X kws t' := ⟨fun p pins s σ H Q I q => h.run p pins s σ H Q I (w σ H Q I.len q)⟩
theorem w_a0 (σ : L2.St) (H : Hp) (Q : List V → Hp → Prop) (h : tAg c W [] bs (mC []) σ H Q) : tNil σ H Q := by
  obtain ⟨G, S, As, τ, R, q⟩ := h
  exact q [] G As H R Post.refl rfl AvIn.nil
theorem w_ad (σ : L2.St) (H : Hp) (Q : List V → Hp → Prop) (h : tAg c W (m1 ++ m2) bs (mCons (aD ma) mr) σ H Q) : tCons (tE c W true m1 ma) (tAg c W m2 bs mr) σ H Q := by
  obtain ⟨G, S, As, τ, R, q⟩ := h
  refine ⟨G, S, As, τ, R, fin_mono (fin_bd (fin_bd q)) fun d S1 e1 k => ?_⟩
  intro v G1 As1 H1 R1 P1 r1
  refine ⟨G1, S1, As1, τ, R1, fin_mono (fin_bd k) fun as S2 e2 k2 => ?_⟩
  intro vs G2 As2 H2 R2 P2 r2 a2
  exact k2 (v :: vs) G2 As2 H2 R2 (P1.trans P2) ⟨v, vs, rfl, Rs.mono P2.exG r1, r2⟩ a2.d
theorem w_as {i : Nat} {σ : L2.St} {H : Hp} {Q : List V → Hp → Prop} (hi : i < σ.length) (h : tAg c W m2 bs (mCons (aS i) mr) σ H Q) : tCons (tVar i) (tAg c W m2 bs mr) σ H Q := by
  obtain ⟨G, S, As, τ, R, q⟩ := h
  have q1 := fin_bd q
  unfold aS at q1
  cases ho : isOw S[i]? with
  | false => rw [ho] at q1; exact q1.elim
  | true =>
    rw [ho] at q1
    obtain ⟨o, eo⟩ := isOw_some ho
    obtain ⟨v, h1, h2⟩ := ow_at R hi eo
    refine ⟨v, h1, G, S, As, τ, R, fin_mono (fin_bd q1) fun as S2 e2 k2 => ?_⟩
    intro vs G2 As2 H2 R2 P2 r2 a2
    exact k2 (v :: vs) G2 As2 H2 R2 P2 ⟨v, vs, rfl, by rw [env_lt hi]; exact h1, r2⟩ (a2.s hi)
theorem w_ab {i : Nat} {σ : L2.St} {H : Hp} {Q : List V → Hp → Prop} (hi : i < σ.length) (hb : i ∈ bs) (h : tAg c W m2 bs (mCons (aB i) mr) σ H Q) : tCons (tVar i) (tAg c W m2 bs mr) σ H Q := by
  obtain ⟨G, S, As, τ, R, q⟩ := h
  have q1 := fin_bd q
  unfold aB at q1
  cases ho : isOw S[i]? with
  | false => rw [ho] at q1; exact q1.elim
  | true =>
    rw [ho] at q1
    obtain ⟨o, eo⟩ := isOw_some ho
    obtain ⟨v, h1, h2⟩ := ow_at R hi eo
    refine ⟨v, h1, G, S, As, τ, R, fin_mono (fin_bd q1) fun as S2 e2 k2 => ?_⟩
    intro vs G2 As2 H2 R2 P2 r2 a2
    exact k2 (v :: vs) G2 As2 H2 R2 P2 ⟨v, vs, rfl, by rw [env_lt hi]; exact h1, r2⟩ (a2.b hb hi)
theorem aNil : PA X [] (tAg c W [] bs (mC [])) := PAw pa_nil w_a0
theorem zAd (ha : PE X e (tE c W true m1 ma)) (hr : PA X es (tAg c W m2 bs mr)) (hs : starEach (e :: es) X.env = (false, eval e X.env) :: starEach es X.env := by rfl) : PA X (e :: es) (tAg c W (m1 ++ m2) bs (mCons (aD ma) mr)) := PAw (pa_cons ha hr hs) w_ad
theorem zAs {i : Nat} {x : Str} {p : Pos} (hN : X.N[i]? = some x) (hr : PA X es (tAg c W m2 bs mr)) (hv : Vis X.env.scope x := by first | exact Or.inl rfl | exact Or.inr (Or.inl rfl) | exact Or.inr (Or.inr rfl))
    (hd : (x == ("__debug__" : Str)) = false := by decide) (hcd : (x == ("__classdict__" : Str)) = false := by decide) (hs : starEach (.Name x p :: es) X.env = (false, eval (.Name x p) X.env) :: starEach es X.env := by rfl) : PA X (.Name x p :: es) (tAg c W m2 bs (mCons (aS i) mr)) :=
  PAl (pa_cons (pe_var (i := i) hN hv hd hcd) hr hs) fun σ H Q hl h => w_as (by rw [hl]; exact (List.getElem?_eq_some_iff.mp hN).1) h
theorem zAb {i : Nat} {x : Str} {p : Pos} (hN : X.N[i]? = some x) (hr : PA X es (tAg c W m2 bs mr)) (hb : i ∈ bs) (hv : Vis X.env.scope x := by first | exact Or.inl rfl | exact Or.inr (Or.inl rfl) | exact Or.inr (Or.inr rfl))
    (hd : (x == ("__debug__" : Str)) = false := by decide) (hcd : (x == ("__classdict__" : Str)) = false := by decide) (hs : starEach (.Name x p :: es) X.env = (false, eval (.Name x p) X.env) :: starEach es X.env := by rfl) : PA X (.Name x p :: es) (tAg c W m2 bs (mCons (aB i) mr)) :=
  PAl (pa_cons (pe_var (i := i) hN hv hd hcd) hr hs) fun σ H Q hl h => w_ab (by rw [hl]; exact (List.getElem?_eq_some_iff.mp hN).1) hb h
/-! keywords -/
variable {nm : Option Str} {kpos : Pos} {kws : List Keyword}
theorem kNil : PK X [] (tAg c W [] bs (mC [])) := PKl pk_nil fun σ H Q _ h => w_a0 σ H Q h
theorem kAd (ha : PE X e (tE c W true m1 ma)) (hr : PK X kws (tAg c W m2 bs mr)) : PK X (⟨nm, e, kpos⟩ :: kws) (tAg c W (m1 ++ m2) bs (mCons (aD ma) mr)) := PKl (pk_cons ha hr) fun σ H Q _ h => w_ad σ H Q h
theorem kAs {i : Nat} {x : Str} {p : Pos} (hN : X.N[i]? = some x) (hr : PK X kws (tAg c W m2 bs mr)) (hv : Vis X.env.scope x := by first | exact Or.inl rfl | exact Or.inr (Or.inl rfl) | exact Or.inr (Or.inr rfl))
    (hd : (x == ("__debug__" : Str)) = false := by decide) (hcd : (x == ("__classdict__" : Str)) = false := by decide) : PK X (⟨nm, .Name x p, kpos⟩ :: kws) (tAg c W m2 bs (mCons (aS i) mr)) :=
  PKl (pk_cons (pe_var (i := i) hN hv hd hcd) hr) fun σ H Q hl h => w_as (by rw [hl]; exact (List.getElem?_eq_some_iff.mp hN).1) h
end
/-! ### closed things: no shared objects within -/
mutual
def clO : O → Bool
  | .sh d => isScal d
  | .lst os => clL os
  | .tup os => clL os
  | .dic _ os => clL os
  | .obj _ _ os => clL os
def clL : List O → Bool
  | [] => true
  | o :: os => clO o && clL os
end
mutual
theorem cl_any {E : Ev} {G G' H : Hp} : ∀ {o : O} {v : V} {A : List Addr}, clO o = true → Ro E G H o v A → Ro E G' H o v A
  | .sh d, v, A, s, h => by
    unfold Ro at h ⊢
    unfold clO at s
    exact ⟨h.1, scal_any s h.2⟩
  | .lst os, v, A, s, h => by
    unfold Ro at h ⊢
    unfold clO at s
    obtain ⟨a, xs, B, h1, h2, h3, h4⟩ := h
    exact ⟨a, xs, B, h1, h2, h3, clL_any s h4⟩
  | .tup os, v, A, s, h => by
    unfold Ro at h ⊢
    unfold clO at s
    obtain ⟨a, xs, B, h1, h2, h3, h4⟩ := h
    exact ⟨a, xs, B, h1, h2, h3, clL_any s h4⟩
  | .dic ks os, v, A, s, h => by
    unfold Ro at h ⊢
    unfold clO at s
    obtain ⟨a, xs, B, h1, h2, h3, h5, h4⟩ := h
    exact ⟨a, xs, B, h1, h2, h3, h5, clL_any s h4⟩
  | .obj C fs os, v, A, s, h => by
    unfold Ro at h ⊢
    unfold clO at s
    obtain ⟨a, dx, xs, B, h1, h2, h3, h5, h4⟩ := h
    exact ⟨a, dx, xs, B, h1, h2, h3, h5, clL_any s h4⟩
theorem clL_any {E : Ev} {G G' H : Hp} : ∀ {os : List O} {vs : List V} {A : List Addr}, clL os = true → RoL E G H os vs A → RoL E G' H os vs A
  | [], vs, A, s, h => by
    unfold RoL at h ⊢
    exact h
  | o :: os, vs, A, s, h => by
    unfold RoL at h ⊢
    unfold clL at s
    rw [Bool.and_eq_true] at s
    obtain ⟨v, r, A1, A2, h1, h2, h3, h4⟩ := h
    exact ⟨v, r, A1, A2, h1, h2, cl_any s.1 h3, clL_any s.2 h4⟩
end
def clS : Option Sl → Bool
  | some (.ow o) => clO o
  | _ => false
/-- the arguments as the callee has them -/
def argOf (S : List Sl) : Av → Option Sl
  | .d d => some (.pl d)
  | .s i => match S[i]? with
    | some (.ow o) => some (.pl (fr o))
    | _ => none
  | .b i => match S[i]? with
    | some (.ow o) => some (.ow o)
    | _ => none
def argsOf (S : List Sl) : List Av → Option (List Sl)
  | [] => some []
  | a :: r => match argOf S a, argsOf S r with
    | some x, some xs => some (x :: xs)
    | _, _ => none
/-- what was lent comes back -/
def backS (S2 : List Sl) : List (Nat × Nat) → List Sl → List Sl
  | [], S => S
  | (p, i) :: r, S => (backS S2 r S).set i (S2.getD p .no)
/-- the calling side's own checks -/
def callOk (n : Nat) (io : List Nat) (as : List Av) : Bool := decide (as.length = n) && (decide ((lentAt 0 as).map (·.1) = io) && (decide ((lentAt 0 as).map (·.2)).Nodup && (shown as).all fun i => !((lentAt 0 as).map (·.2)).contains i))
def callV (n : Nat) (io : List Nat) (f : Fn) (as : List Av) : M O := fun S1 => match callOk n io as, argsOf S1 as with
  | true, some args => match f args with
    | .ok o S2 => match (shown as).isEmpty || (clO o && io.all fun p => clS S2[p]?) with
      | true => .ok o (backS S2 (lentAt 0 as) S1)
      | false => .bad
    | .exc C fs ds S2 => match (shown as).isEmpty || (ds.all isScal && io.all fun p => clS S2[p]?) with
      | true => .exc C fs ds (backS S2 (lentAt 0 as) S1)
      | false => .bad
    | .bad => .bad
  | _, _ => .bad
def mCall (n : Nat) (io : List Nat) (f : Fn) (m : M (List Av)) : M O := fun S => (m S).bd fun as S1 => callV n io f as S1
/-! places -/
def lentI : Option Av → Option Nat
  | some (.b i) => some i
  | _ => none
theorem lent_lookup : ∀ (as : List Av) (k n : Nat), (lentAt k as).lookup n = if n < k then none else lentI as[n - k]?
  | [], k, n => by
    show none = _
    split <;> rfl
  | a :: r, k, n => by
    have ih := lent_lookup r (k + 1) n
    have key : (lentAt (k + 1) r).lookup n = if n < k + 1 then none else lentI r[n - (k + 1)]? := ih
    have go : n ≠ k → (lentAt (k + 1) r).lookup n = if n < k then none else lentI (a :: r)[n - k]? := fun hne => by
      rw [key]
      by_cases h1 : n < k
      · rw [if_pos (by omega), if_pos h1]
      · rw [if_neg (by omega), if_neg h1]
        have e : n - k = (n - (k + 1)) + 1 := by omega
        rw [e, List.getElem?_cons_succ]
    have none_k : (lentAt (k + 1) r).lookup k = none := by
      rw [lent_lookup r (k + 1) k, if_pos (by omega)]
    cases a with
    | d x =>
      show (lentAt (k + 1) r).lookup n = _
      by_cases hn : n = k
      · subst hn
        rw [none_k, if_neg (by omega), Nat.sub_self]
        rfl
      · exact go hn
    | s x =>
      show (lentAt (k + 1) r).lookup n = _
      by_cases hn : n = k
      · subst hn
        rw [none_k, if_neg (by omega), Nat.sub_self]
        rfl
      · exact go hn
    | b x =>
      show ((k, x) :: lentAt (k + 1) r).lookup n = _
      by_cases hn : n = k
      · subst hn
        rw [if_neg (by omega), Nat.sub_self]
        simp [List.lookup, lentI]
      · have : (n == k) = false := by simpa using hn
        rw [List.lookup_cons, this]
        exact go hn
theorem lookup_in : ∀ {l : List (Nat × Nat)} {p i : Nat}, l.lookup p = some i → (p, i) ∈ l
  | [], _, _, h => by cases h
  | (a, b) :: r, p, i, h => by
    rw [List.lookup_cons] at h
    cases e : p == a with
    | true =>
      rw [e] at h
      have e1 : p = a := by simpa using e
      cases h
      rw [e1]
      exact List.mem_cons_self
    | false =>
      rw [e] at h
      exact List.mem_cons_of_mem _ (lookup_in h)
theorem lookup_of : ∀ {l : List (Nat × Nat)} {p i : Nat}, (l.map (·.1)).Nodup → (p, i) ∈ l → l.lookup p = some i
  | (a, b) :: r, p, i, hn, h => by
    rw [List.map_cons, List.nodup_cons] at hn
    rw [List.lookup_cons]
    rcases List.mem_cons.mp h with e | h
    · cases e
      simp
    · have : (p == a) = false := by
        have : p ≠ a := fun e => hn.1 (List.mem_map.mpr ⟨(p, i), h, e⟩)
        simpa using this
      rw [this]
      exact lookup_of hn.2 h
theorem lent_keys : ∀ (as : List Av) (k : Nat), ((lentAt k as).map (·.1)).Nodup ∧ ∀ p ∈ lentAt k as, k ≤ p.1
  | [], k => ⟨List.nodup_nil, fun _ h => nomatch h⟩
  | a :: r, k => by
    obtain ⟨h1, h2⟩ := lent_keys r (k + 1)
    have h3 : ∀ p ∈ lentAt (k + 1) r, k ≤ p.1 := fun p hp => by have := h2 p hp; omega
    cases a with
    | d x => exact ⟨h1, h3⟩
    | s x => exact ⟨h1, h3⟩
    | b x =>
      refine ⟨?_, fun p hp => ?_⟩
      · show (k :: (lentAt (k + 1) r).map (·.1)).Nodup
        rw [List.nodup_cons]
        refine ⟨fun z => ?_, h1⟩
        obtain ⟨q, hq, e⟩ := List.mem_map.mp z
        have := h2 q hq
        omega
      · rcases List.mem_cons.mp hp with e | hp
        · rw [e]; exact Nat.le_refl _
        · exact h3 p hp
/-- slot i was lent at the place .. -/
def whereL (l : List (Nat × Nat)) (i : Nat) : Option Nat := (l.map fun p => (p.2, p.1)).lookup i
theorem where_in {l : List (Nat × Nat)} {i p : Nat} (h : whereL l i = some p) : (p, i) ∈ l := by
  have := lookup_in h
  obtain ⟨q, hq, e⟩ := List.mem_map.mp this
  have e1 := congrArg Prod.fst e
  have e2 := congrArg Prod.snd e
  obtain ⟨q1, q2⟩ := q
  have e1' : q2 = i := e1
  have e2' : q1 = p := e2
  rw [← e1', ← e2']
  exact hq
theorem where_of {l : List (Nat × Nat)} {i p : Nat} (hn : (l.map (·.2)).Nodup) (h : (p, i) ∈ l) : whereL l i = some p := by
  refine lookup_of ?_ (List.mem_map.mpr ⟨(p, i), h, rfl⟩)
  rw [List.map_map]
  exact hn
theorem backS_len {S2 S : List Sl} : ∀ {l : List (Nat × Nat)}, (backS S2 l S).length = S.length
  | [] => rfl
  | (p, i) :: r => by unfold backS; rw [List.length_set, backS_len]
theorem backS_out {S2 S : List Sl} {j : Nat} : ∀ {l : List (Nat × Nat)}, j ∉ l.map (·.2) → (backS S2 l S)[j]? = S[j]?
  | [], _ => rfl
  | (p, i) :: r, h => by
    rw [List.map_cons, List.mem_cons, not_or] at h
    unfold backS
    rw [List.getElem?_set_ne fun e => h.1 e.symm]
    exact backS_out h.2
theorem backS_in {S2 S : List Sl} {j p : Nat} : ∀ {l : List (Nat × Nat)}, (l.map (·.2)).Nodup → (p, j) ∈ l → j < S.length → (backS S2 l S)[j]? = some (S2.getD p .no)
  | (q, i) :: r, hn, h, hl => by
    rw [List.map_cons, List.nodup_cons] at hn
    unfold backS
    rcases List.mem_cons.mp h with e | h
    · cases e
      rw [List.getElem?_set_self (by rw [backS_len]; exact hl)]
    · have : i ≠ j := fun e => hn.1 (by rw [e]; exact List.mem_map.mpr ⟨(p, j), h, rfl⟩)
      rw [List.getElem?_set_ne this]
      exact backS_in hn.2 h hl
theorem argsOf_len {S : List Sl} : ∀ {as : List Av} {args : List Sl}, argsOf S as = some args → args.length = as.length
  | [], _, h => by cases h; rfl
  | a :: r, args, h => by
    unfold argsOf at h
    split at h
    · rename_i x xs h1 h2
      cases h
      rw [List.length_cons, List.length_cons, argsOf_len h2]
    · cases h
theorem argsOf_at {S : List Sl} : ∀ {as : List Av} {args : List Sl} {p : Nat} {s : Sl}, argsOf S as = some args → args[p]? = some s → ∃ a, as[p]? = some a ∧ argOf S a = some s
  | [], args, p, s, h, e => by
    cases h
    rw [List.getElem?_nil] at e
    cases e
  | a :: r, args, p, s, h, e => by
    unfold argsOf at h
    split at h
    · rename_i x xs h1 h2
      cases h
      cases p with
      | zero =>
        cases e
        exact ⟨a, rfl, h1⟩
      | succ p =>
        rw [List.getElem?_cons_succ] at e
        rw [List.getElem?_cons_succ]
        exact argsOf_at h2 e
    · cases h
theorem argsOf_to {S : List Sl} : ∀ {as : List Av} {args : List Sl} {p : Nat} {a : Av}, argsOf S as = some args → as[p]? = some a → ∃ s, args[p]? = some s ∧ argOf S a = some s
  | [], args, p, a, h, e => by
    rw [List.getElem?_nil] at e
    cases e
  | b :: r, args, p, a, h, e => by
    unfold argsOf at h
    split at h
    · rename_i x xs h1 h2
      cases h
      cases p with
      | zero =>
        cases e
        exact ⟨x, rfl, h1⟩
      | succ p =>
        rw [List.getElem?_cons_succ] at e
        rw [List.getElem?_cons_succ]
        exact argsOf_to h2 e
    · cases h
theorem AvOk.len {E : Ev} {G : Hp} {σ : L2.St} : ∀ {as : List Av} {vs : List V}, AvOk E G σ as vs → as.length = vs.length
  | [], _, h => by
    have h' : _ = [] := h
    rw [h']
    rfl
  | .d d :: r, vs, h => by
    obtain ⟨v, ws, h1, h2, h3⟩ := h
    rw [h1, List.length_cons, List.length_cons, AvOk.len h3]
  | .s i :: r, vs, h => by
    obtain ⟨v, ws, h1, h2, h3⟩ := h
    rw [h1, List.length_cons, List.length_cons, AvOk.len h3]
  | .b i :: r, vs, h => by
    obtain ⟨v, ws, h1, h2, h3⟩ := h
    rw [h1, List.length_cons, List.length_cons, AvOk.len h3]
def AvOk1 (E : Ev) (G : Hp) (σ : L2.St) : Av → V → Prop
  | .d d, v => Rs E G d v
  | .s i, v => σ[i]? = some (some v)
  | .b i, v => σ[i]? = some (some v)
theorem AvOk.at {E : Ev} {G : Hp} {σ : L2.St} : ∀ {as : List Av} {vs : List V} {p : Nat} {a : Av}, AvOk E G σ as vs → as[p]? = some a → ∃ v, vs[p]? = some v ∧ AvOk1 E G σ a v
  | [], _, p, a, _, e => by
    rw [List.getElem?_nil] at e
    cases e
  | x :: r, vs, 0, a, h, e => by
    cases e
    cases x with
    | d d =>
      obtain ⟨v, ws, h1, h2, h3⟩ := h
      rw [h1]
      exact ⟨v, rfl, h2⟩
    | s i =>
      obtain ⟨v, ws, h1, h2, h3⟩ := h
      rw [h1]
      exact ⟨v, rfl, h2⟩
    | b i =>
      obtain ⟨v, ws, h1, h2, h3⟩ := h
      rw [h1]
      exact ⟨v, rfl, h2⟩
  | x :: r, vs, p + 1, a, h, e => by
    rw [List.getElem?_cons_succ] at e
    cases x with
    | d d =>
      obtain ⟨v, ws, h1, h2, h3⟩ := h
      rw [h1]
      exact AvOk.at (p := p) h3 e
    | s i =>
      obtain ⟨v, ws, h1, h2, h3⟩ := h
      rw [h1]
      exact AvOk.at (p := p) h3 e
    | b i =>
      obtain ⟨v, ws, h1, h2, h3⟩ := h
      rw [h1]
      exact AvOk.at (p := p) h3 e
theorem shown_in : ∀ {as : List Av} {p i : Nat}, as[p]? = some (.s i) → i ∈ shown as
  | [], p, i, e => by
    rw [List.getElem?_nil] at e
    cases e
  | x :: r, 0, i, e => by
    cases e
    exact List.mem_cons_self
  | x :: r, p + 1, i, e => by
    rw [List.getElem?_cons_succ] at e
    have ih := shown_in e
    cases x with
    | s j => exact List.mem_cons_of_mem _ ih
    | d d => exact ih
    | b j => exact ih
end Z

/-! Z9: a call keeps the caller's state. -/
namespace Z
open PySem PySem.Spec PyProof.Rows L2
section
variable {c : Ctx} {W : XK} {G1 H1 : Hp} {S1 : List Sl} {As1 : Nat → List Addr} {τ : List V} {σ : L2.St} {as : List Av} {vs : List V} {n : Nat} {io : List Nat} {args : List Sl}
/-- the nodes of the shown slots -/
def shA (As : Nat → List Addr) (as : List Av) : List Addr := (shown as).flatMap As
def lentA (As : Nat → List Addr) (as : List Av) : Nat → List Addr := fun p => match (lentAt 0 as).lookup p with
  | some i => As i
  | none => []
theorem callOk_io (h : callOk n io as = true) : as.length = n ∧ (lentAt 0 as).map (·.1) = io ∧ ((lentAt 0 as).map (·.2)).Nodup ∧ ∀ i ∈ shown as, i ∉ (lentAt 0 as).map (·.2) := by
  unfold callOk at h
  rw [Bool.and_eq_true, Bool.and_eq_true, Bool.and_eq_true, List.all_eq_true] at h
  refine ⟨of_decide_eq_true h.1, of_decide_eq_true h.2.1, of_decide_eq_true h.2.2.1, fun i hi z => ?_⟩
  have := h.2.2.2 i hi
  rw [List.contains_iff_mem.mpr z] at this
  cases this
theorem lent_of {p i : Nat} (h : (p, i) ∈ lentAt 0 as) : as[p]? = some (.b i) := by
  have h1 := lookup_of (lent_keys as 0).1 h
  rw [lent_lookup as 0 p, if_neg (by omega), Nat.sub_zero] at h1
  unfold lentI at h1
  split at h1
  · rename_i j e
    cases h1
    exact e
  · cases h1
theorem of_lent {p i : Nat} (h : as[p]? = some (.b i)) : (p, i) ∈ lentAt 0 as := by
  refine lookup_in ?_
  rw [lent_lookup as 0 p, if_neg (by omega), Nat.sub_zero, h]
  rfl
theorem call_ent (R : Real c G1 S1 As1 τ σ H1) (ok : AvOk c.E G1 (env σ τ) as vs) (hs : ∀ i ∈ shown as, i < (env σ τ).length) (hb : ∀ p ∈ lentAt 0 as, p.2 < (env σ τ).length) (hc : callOk n io as = true) (ha : argsOf S1 as = some args) :
    Ent c.E io (frz G1 H1 (shA As1 as)) H1 args vs (lentA As1 as) := by
  obtain ⟨h1, h2, h3, h4⟩ := callOk_io hc
  have nf : ∀ a ∈ shA As1 as, G1 a = none := fun a h => by
    obtain ⟨i, _, q⟩ := List.mem_flatMap.mp h
    exact R.nf i a q
  have x1 : Ex G1 (frz G1 H1 (shA As1 as)) := frz_ex nf
  have lent_in : ∀ {p : Nat} {a : Addr}, a ∈ lentA As1 as p → ∃ i, (p, i) ∈ lentAt 0 as ∧ a ∈ As1 i := fun {p a} h => by
    unfold lentA at h
    cases e : (lentAt 0 as).lookup p with
    | none => rw [e] at h; cases h
    | some i => rw [e] at h; exact ⟨i, lookup_in e, h⟩
  refine ⟨frz_of R.exG, (argsOf_len ha).trans ok.len, fun p s e => ?_, fun p hp => ?_, fun p hp => ?_, fun p => ?_, fun p q a hp hq => ?_, fun p a hp => ?_⟩
  · obtain ⟨a, ea, eo⟩ := argsOf_at ha e
    obtain ⟨v, ev, ro⟩ := AvOk.at ok ea
    have el : (lentAt 0 as).lookup p = lentI as[p]? := by rw [lent_lookup as 0 p, if_neg (by omega), Nat.sub_zero]
    rw [ev]
    cases a with
    | d d =>
      cases eo
      refine ⟨?_, v, rfl, Rs.mono x1 ro⟩
      unfold lentA
      rw [el, ea]
      rfl
    | s i =>
      have hi := hs i (shown_in ea)
      have eo : (match S1[i]? with | some (.ow o) => some (Sl.pl (fr o)) | _ => none) = some s := eo
      cases eS : S1[i]? with
      | none => rw [eS] at eo; cases eo
      | some s' =>
        rw [eS] at eo
        cases s' with
        | ow o =>
          cases eo
          obtain ⟨w, hw, rw'⟩ := R.sl i _ eS
          have ro' : (env σ τ)[i]? = some (some v) := ro
          rw [hw] at ro'
          cases ro'
          refine ⟨?_, v, rfl, Ro.see x1 rw' fun a h u q => ?_⟩
          · unfold lentA
            rw [el, ea]
            rfl
          · rw [frz_in (show a ∈ shA As1 as from List.mem_flatMap.mpr ⟨i, shown_in ea, h⟩)]
            exact q
        | _ => cases eo
    | b i =>
      have hi := hb (p, i) (of_lent ea)
      have eo : (match S1[i]? with | some (.ow o) => some (Sl.ow o) | _ => none) = some s := eo
      cases eS : S1[i]? with
      | none => rw [eS] at eo; cases eo
      | some s' =>
        rw [eS] at eo
        cases s' with
        | ow o =>
          cases eo
          obtain ⟨w, hw, rw'⟩ := R.sl i _ eS
          have ro' : (env σ τ)[i]? = some (some v) := ro
          rw [hw] at ro'
          cases ro'
          refine ⟨v, rfl, ?_⟩
          have e2 : lentA As1 as p = As1 i := by
            unfold lentA
            rw [el, ea]
            rfl
          rw [e2]
          exact Ro.keep x1 rw' fun _ _ _ q => q
        | _ => cases eo
  · rw [← h2] at hp
    obtain ⟨⟨p', i⟩, hq, rfl⟩ := List.mem_map.mp hp
    have ea := lent_of hq
    obtain ⟨s, es, eo⟩ := argsOf_to ha ea
    have eo : (match S1[i]? with | some (.ow o) => some (Sl.ow o) | _ => none) = some s := eo
    split at eo
    · cases eo
      exact ⟨_, es⟩
    · cases eo
  · cases e : (lentAt 0 as).lookup p with
    | none => unfold lentA; rw [e]
    | some i =>
      refine absurd ?_ hp
      rw [← h2]
      exact List.mem_map.mpr ⟨(p, i), lookup_in e, rfl⟩
  · unfold lentA
    split
    · exact R.nd _
    · exact List.nodup_nil
  · obtain ⟨i, hi, qi⟩ := lent_in hp
    obtain ⟨j, hj, qj⟩ := lent_in hq
    have e := R.dj i j a qi qj
    subst e
    have w1 := where_of h3 hi
    have w2 := where_of h3 hj
    rw [w1] at w2
    exact Option.some.inj w2
  · obtain ⟨i, hi, qi⟩ := lent_in hp
    rw [frz_out fun z => ?_]
    · exact R.nf i a qi
    · obtain ⟨j, hj, qj⟩ := List.mem_flatMap.mp z
      have e := R.dj i j a qi qj
      subst e
      exact h4 i hj (List.mem_map.mpr ⟨(p, i), hi, rfl⟩)
/-- whose nodes stand where, behind the call -/
def backA (As As' : Nat → List Addr) (as : List Av) : Nat → List Addr := fun j => match whereL (lentAt 0 as) j with
  | some p => As' p
  | none => As j
theorem call_exi {S2 : List Sl} {As2 : Nat → List Addr} {G' H2 : Hp} {A : List Addr} (R : Real c G1 S1 As1 τ σ H1) (ok : AvOk c.E G1 (env σ τ) as vs) (hb : ∀ p ∈ lentAt 0 as, p.2 < (env σ τ).length) (hc : callOk n io as = true)
    (X : Exi c.E io (frz G1 H1 (shA As1 as)) H1 vs (lentA As1 as) S2 As2 G' H2 A) (cl : (shown as).isEmpty = true ∨ io.all (fun p => clS S2[p]?) = true) :
    ∃ G2, Real c G2 (backS S2 (lentAt 0 as) S1) (backA As1 As2 as) τ σ H2 ∧ Post ((lentAt 0 as).map (·.2)) S1 (backS S2 (lentAt 0 as) S1) As1 (backA As1 As2 as) G1 G2 H1 H2 ∧ New c G2 (backA As1 As2 as) A ∧ (∀ a ∈ A, H1 a = none) ∧
      (((shown as).isEmpty = true ∧ G2 = G') ∨ ((shown as).isEmpty ≠ true ∧ G2 = G1)) := by
  obtain ⟨h1, h2, h3, h4⟩ := callOk_io hc
  have iop : ∀ {p i : Nat}, (p, i) ∈ lentAt 0 as → p ∈ io := fun {p i} h => by rw [← h2]; exact List.mem_map.mpr ⟨(p, i), h, rfl⟩
  have iop2 : ∀ {p : Nat}, p ∈ io → ∃ i, (p, i) ∈ lentAt 0 as := fun {p} h => by
    rw [← h2] at h
    obtain ⟨⟨p', i⟩, hq, rfl⟩ := List.mem_map.mp h
    exact ⟨i, hq⟩
  have la : ∀ {p i : Nat}, (p, i) ∈ lentAt 0 as → lentA As1 as p = As1 i := fun {p i} h => by
    unfold lentA
    rw [lookup_of (lent_keys as 0).1 h]
  have wh : ∀ {p i : Nat}, (p, i) ∈ lentAt 0 as → backA As1 As2 as i = As2 p := fun {p i} h => by
    unfold backA
    rw [where_of h3 h]
  have wn : ∀ {j : Nat}, j ∉ (lentAt 0 as).map (·.2) → backA As1 As2 as j = As1 j := fun {j} h => by
    unfold backA
    cases e : whereL (lentAt 0 as) j with
    | none => rfl
    | some p => exact absurd (List.mem_map.mpr ⟨(p, j), where_in e, rfl⟩) h
  have cs : ∀ j, (∃ p, (p, j) ∈ lentAt 0 as) ∨ j ∉ (lentAt 0 as).map (·.2) := fun j => by
    by_cases h : j ∈ (lentAt 0 as).map (·.2)
    · obtain ⟨⟨p, j'⟩, hq, rfl⟩ := List.mem_map.mp h
      exact .inl ⟨p, hq⟩
    · exact .inr h
  -- a node of another slot is none of the lent ones
  have other : ∀ {j : Nat} {a : Addr}, j ∉ (lentAt 0 as).map (·.2) → a ∈ As1 j → ∀ p ∈ io, a ∉ lentA As1 as p := fun {j a} hj ha p hp z => by
    obtain ⟨i, hi⟩ := iop2 hp
    rw [la hi] at z
    have e := R.dj j i a ha z
    subst e
    exact hj (List.mem_map.mpr ⟨(p, j), hi, rfl⟩)
  have gfr : ∀ a o, H1 a = some o → (∀ j ∈ (lentAt 0 as).map (·.2), a ∉ As1 j) → H2 a = some o := fun a o e hn => X.frm a o e fun p hp z => by
    obtain ⟨i, hi⟩ := iop2 hp
    rw [la hi] at z
    exact hn i (List.mem_map.mpr ⟨(p, i), hi, rfl⟩) z
  have keepG : Ex G1 H2 := fun a o e => by
    have nl : ∀ j ∈ (lentAt 0 as).map (·.2), a ∉ As1 j := fun j _ z => by rw [R.nf j a z] at e; cases e
    rcases R.exG a o e with q | ⟨k, ob, q⟩
    · exact .inl (gfr a o q nl)
    · exact .inr ⟨k, ob, gfr a _ q nl⟩
  have ins : ∀ {j : Nat} {a : Addr}, a ∈ backA As1 As2 as j → a ∈ As1 j ∨ H1 a = none := fun {j a} h => by
    rcases cs j with ⟨p, hp⟩ | hj
    · rw [wh hp] at h
      rcases (X.nf p (iop hp) a h).2 with z | z
      · exact .inr z
      · rw [la hp] at z; exact .inl z
    · rw [wn hj] at h; exact .inl h
  have gen : ∀ G2 : Hp, Ex G1 G2 → Ex G2 H2 → (∀ a, H1 a ≠ none → G2 a = G1 a) → (∀ p ∈ io, ∀ o w, S2[p]? = some (.ow o) → Ro c.E G' H2 o w (As2 p) → Ro c.E G2 H2 o w (As2 p)) → (∀ p ∈ io, ∀ a ∈ As2 p, G2 a = none) →
      Real c G2 (backS S2 (lentAt 0 as) S1) (backA As1 As2 as) τ σ H2 ∧ Post ((lentAt 0 as).map (·.2)) S1 (backS S2 (lentAt 0 as) S1) As1 (backA As1 As2 as) G1 G2 H1 H2 := by
    intro G2 e12 e2 gn back nf2
    have fz : ∀ a, H1 a ≠ none → G2 a = G1 a := gn
    have sl2 : ∀ {p i : Nat}, (p, i) ∈ lentAt 0 as → ∃ o w, S2[p]? = some (.ow o) ∧ vs[p]? = some w ∧ (env σ τ)[i]? = some (some w) ∧ Ro c.E G2 H2 o w (As2 p) := fun {p i} h => by
      obtain ⟨o, w, q1, q2, q3⟩ := X.sl p (iop h)
      obtain ⟨v, q4, q5⟩ := AvOk.at ok (lent_of h)
      rw [q2] at q4
      cases q4
      exact ⟨o, w, q1, q2, q5, back p (iop h) o w q1 q3⟩
    refine ⟨⟨e2, fun j s e => ?_, by rw [backS_len]; exact R.len, fun j hj => ?_, fun j => ?_, fun i j a hi hj => ?_, fun j a hj => ?_, R.g0.trans e12, fun a h => ?_, fun a o e hn => ?_, fun a h => X.stay a (R.stay a h), fun j a hj => ?_, fun j hj => ?_⟩, ⟨e12, fun j hj => ⟨backS_out hj, wn hj⟩, gfr, fun j a h => ?_, X.stay, backS_len, fun a h _ => gn a h⟩⟩
    · rcases cs j with ⟨p, hp⟩ | hj
      · have hl : j < S1.length := by
          have := hb (p, j) hp
          rw [env_len] at this
          rw [R.len]
          exact this
        obtain ⟨o, w, q1, q2, q3, q4⟩ := sl2 hp
        rw [backS_in h3 hp hl, List.getD_eq_getElem?_getD, q1] at e
        cases e
        rw [wh hp]
        exact ⟨w, q3, q4⟩
      · rw [backS_out hj] at e
        rw [wn hj]
        exact (R.sl j s e).keep e12 fun a ha u q => gfr a u q fun i hi z => by
          have e := R.dj j i a ha z
          subst e
          exact hj hi
    · rw [backS_len] at hj
      rcases cs j with ⟨p, hp⟩ | hj2
      · have h9 := hb (p, j) hp
        rw [env_len, ← R.len] at h9
        exact absurd h9 (Nat.not_lt.mpr hj)
      · rw [wn hj2]; exact R.emp j hj
    · rcases cs j with ⟨p, hp⟩ | hj
      · rw [wh hp]; exact X.nd p (iop hp)
      · rw [wn hj]; exact R.nd j
    · rcases cs i with ⟨p, hp⟩ | h1'
      · rcases cs j with ⟨q, hq⟩ | h2'
        · rw [wh hp] at hi
          rw [wh hq] at hj
          have e := X.dj p (iop hp) q (iop hq) a hi hj
          subst e
          have z1 := lent_of hp
          have z2 := lent_of hq
          rw [z1] at z2
          cases z2
          rfl
        · rw [wn h2'] at hj
          have e := ins (j := i) hi
          rcases e with z | z
          · exact R.dj i j a z hj
          · exact absurd z (R.there hj)
      · rcases cs j with ⟨q, hq⟩ | h2'
        · rw [wn h1'] at hi
          rcases ins (j := j) hj with z | z
          · exact R.dj i j a hi z
          · exact absurd z (R.there hi)
        · rw [wn h1'] at hi
          rw [wn h2'] at hj
          exact R.dj i j a hi hj
    · rcases cs j with ⟨p, hp⟩ | hj2
      · rw [wh hp] at hj
        exact nf2 p (iop hp) a hj
      · rw [wn hj2] at hj
        rw [fz a (R.there hj)]
        exact R.nf j a hj
    · rw [fz a (R.stay a h)]
      exact R.gn a h
    · refine gfr a o (R.fr0 a o e hn) fun i hi z => ?_
      rcases R.fn i a z with q | q
      · rw [q] at e; cases e
      · exact hn i q.1 q.2
    · rcases ins hj with z | z
      · exact R.fn j a z
      · left
        cases q : c.H0 a with
        | none => rfl
        | some o => exact absurd z (R.stay a (by rw [q]; exact fun z => nomatch z))
    · obtain ⟨o, v, q1, q2, q3⟩ := R.io j hj
      rcases cs j with ⟨p, hp⟩ | hj2
      · obtain ⟨o', w, z1, z2, z3, z4⟩ := sl2 hp
        rw [env_lt (List.getElem?_eq_some_iff.mp q3).1, q3] at z3
        cases z3
        refine ⟨o', v, ?_, q2, q3⟩
        rw [backS_in h3 hp (List.getElem?_eq_some_iff.mp q1).1, List.getD_eq_getElem?_getD, z1]
        rfl
      · exact ⟨o, v, by rw [backS_out hj2]; exact q1, q2, q3⟩
    · rcases ins h with z | z
      · exact .inl z
      · exact .inr (.inr z)
  have outA : ∀ a ∈ A, ∀ i, a ∉ backA As1 As2 as i := fun a ha i z => by
    rcases cs i with ⟨p, hp⟩ | hj
    · rw [wh hp] at z
      exact (X.rnf a ha).2.2 p (iop hp) z
    · rw [wn hj] at z
      exact R.there z (X.rnf a ha).2.1
  by_cases hsh : (shown as).isEmpty = true
  · have e0 : shA As1 as = [] := by
      unfold shA
      rw [List.isEmpty_iff.mp hsh]
      rfl
    have X' := X
    rw [e0, frz_nil] at X'
    obtain ⟨q1, q2⟩ := gen G' X'.grow X'.exG X'.gn (fun _ _ _ _ _ h => h) fun p hp a ha => (X'.nf p hp a ha).1
    exact ⟨G', q1, q2, ⟨X.rnd, fun a ha => (R.fresh (X.rnf a ha).2.1).1, fun a ha => (X.rnf a ha).1, outA⟩, fun a ha => (X.rnf a ha).2.1, .inl ⟨hsh, rfl⟩⟩
  · have hcl := cl.resolve_left hsh
    rw [List.all_eq_true] at hcl
    obtain ⟨q1, q2⟩ := gen G1 (Ex.refl _) keepG (fun _ _ => rfl) (fun p hp o w e h => cl_any (by
      have := hcl p hp
      rw [e] at this
      exact this) h) fun p hp a ha => by
        rcases (X.nf p hp a ha).2 with z | z
        · exact (R.fresh z).2.1
        · obtain ⟨i, hi⟩ := iop2 hp
          rw [la hi] at z
          exact R.nf i a z
    exact ⟨G1, q1, q2, ⟨X.rnd, fun a ha => (R.fresh (X.rnf a ha).2.1).1, fun a ha => (R.fresh (X.rnf a ha).2.1).2.1, outA⟩, fun a ha => (X.rnf a ha).2.1, (.inr ⟨hsh, rfl⟩)⟩
end
end Z

/-! Z10: the calls' rules. -/
namespace Z
open PySem PySem.Spec PyProof.Rows L2
theorem AvOk.append {E : Ev} {G : Hp} {σ : L2.St} : ∀ {as zs : List Av} {vs ws : List V}, AvOk E G σ as vs → AvOk E G σ zs ws → AvOk E G σ (as ++ zs) (vs ++ ws)
  | [], zs, vs, ws, h, k => by
    have h' : vs = [] := h
    rw [h']
    exact k
  | .d d :: r, zs, vs, ws, h, k => by
    obtain ⟨v, us, rfl, h2, h3⟩ := h
    exact ⟨v, us ++ ws, rfl, h2, AvOk.append h3 k⟩
  | .s i :: r, zs, vs, ws, h, k => by
    obtain ⟨v, us, rfl, h2, h3⟩ := h
    exact ⟨v, us ++ ws, rfl, h2, AvOk.append h3 k⟩
  | .b i :: r, zs, vs, ws, h, k => by
    obtain ⟨v, us, rfl, h2, h3⟩ := h
    exact ⟨v, us ++ ws, rfl, h2, AvOk.append h3 k⟩
theorem AvOk.ds {E : Ev} {G : Hp} {σ : L2.St} : ∀ {ds : List D} {vs : List V}, RsL E G ds vs → AvOk E G σ (ds.map .d) vs
  | [], vs, h => by
    unfold RsL at h
    exact h
  | d :: ds, vs, h => by
    unfold RsL at h
    obtain ⟨v, r, h1, h2, h3⟩ := h
    exact ⟨v, r, h1, h2, AvOk.ds h3⟩
theorem AvIn.ds {bs : List Nat} {σ : L2.St} : ∀ {ds : List D}, AvIn bs σ (ds.map .d)
  | [] => AvIn.nil
  | d :: ds => AvIn.d AvIn.ds
section
variable {c : Ctx} {W : XK} {G1 H1 : Hp} {S1 : List Sl} {As1 : Nat → List Addr} {τ : List V} {σ : L2.St} {as : List Av} {vs : List V} {n : Nat} {io bs : List Nat} {Q : VK}
/-- the promise at a call -/
theorem call_core {f : Fn} (R : Real c G1 S1 As1 τ σ H1) (ok : AvOk c.E G1 (env σ τ) as vs) (hb : ∀ i, Av.b i ∈ as → i ∈ bs ∧ i < (env σ τ).length) (hs : ∀ i, Av.s i ∈ as → i < (env σ τ).length)
    (h : fin c W (callV n io f as S1) fun o S' => ∀ v A G' As' H', Real c G' S' As' τ σ H' → Post bs S1 S' As1 As' G1 G' H1 H' → Ro c.E G' H' o v A → New c G' As' A → (∀ a ∈ A, H1 a = none) → Q v H') : spM c.E n io f vs H1 Q W := by
  have hs' : ∀ i ∈ shown as, i < (env σ τ).length := fun i hi => hs i (shown_mem hi)
  have hb' : ∀ p ∈ lentAt 0 as, p.2 < (env σ τ).length := fun p hp => (hb p.2 (lent_mem hp)).2
  have hbs : ∀ j ∈ (lentAt 0 as).map (·.2), j ∈ bs := fun j hj => by
    obtain ⟨p, hp, rfl⟩ := List.mem_map.mp hj
    exact (hb p.2 (lent_mem hp)).1
  unfold callV at h
  cases hc : callOk n io as with
  | false => rw [hc] at h; exact h.elim
  | true =>
    cases ha : argsOf S1 as with
    | none => rw [hc, ha] at h; exact h.elim
    | some args =>
      rw [hc, ha] at h
      have e1 := callOk_io hc
      refine ⟨(AvOk.len ok).symm.trans e1.1, frz G1 H1 (shA As1 as), args, lentA As1 as, call_ent R ok hs' hb' hc ha, ?_⟩
      have h' : fin c W (match f args with
        | .ok o S2 => match (shown as).isEmpty || (clO o && io.all fun p => clS S2[p]?) with
          | true => Out.ok o (backS S2 (lentAt 0 as) S1)
          | false => .bad
        | .exc C fs ds S2 => match (shown as).isEmpty || (ds.all isScal && io.all fun p => clS S2[p]?) with
          | true => .exc C fs ds (backS S2 (lentAt 0 as) S1)
          | false => .bad
        | .bad => .bad) _ := h
      cases hf : f args with
      | bad => rw [hf] at h'; exact h'.elim
      | ok o S2 =>
        rw [hf] at h'
        intro v A G' As' H' X r
        cases hq : (shown as).isEmpty || (clO o && io.all fun p => clS S2[p]?) with
        | false => simp only [hq] at h'; exact h'.elim
        | true =>
          simp only [hq] at h'
          rw [Bool.or_eq_true, Bool.and_eq_true] at hq
          obtain ⟨G2, R2, P2, N2, fA, eG⟩ := call_exi R ok hb' hc X (hq.imp id fun z => z.2)
          refine h' v A G2 (backA As1 As' as) H' R2 (P2.mono hbs) ?_ N2 fA
          rcases eG with ⟨_, e⟩ | ⟨z2, e⟩
          · rw [e]; exact r
          · rw [e]; exact cl_any (hq.resolve_left z2).1 r
      | exc C fs ds S2 =>
        rw [hf] at h'
        intro G' As' H' dd X x
        cases hq : (shown as).isEmpty || (ds.all isScal && io.all fun p => clS S2[p]?) with
        | false => simp only [hq] at h'; exact h'.elim
        | true =>
          simp only [hq] at h'
          rw [Bool.or_eq_true, Bool.and_eq_true] at hq
          obtain ⟨G2, R2, P2, N2, fA, eG⟩ := call_exi R ok hb' hc X (hq.imp id fun z => z.2)
          refine h' G2 (backA As1 As' as) τ σ H' dd R2 ?_
          rcases eG with ⟨_, e⟩ | ⟨z2, e⟩
          · rw [e]; exact x
          · rcases x with x | ⟨d, xs, q1, q2, q3, q4⟩
            · exact .inl x
            · exact .inr ⟨d, xs, q1, q2, q3, rsL_any (hq.resolve_left z2).1 q4⟩
theorem env_ge {σ : L2.St} {τ : List V} {i : Nat} (h : i < σ.length) : i < (env σ τ).length := by
  rw [env_len]
  omega
/-- from evaluated arguments -/
theorem call_from {f : Fn} {g : List Av → List Av} {H : Hp} {G : Hp} {S : List Sl} {As : Nat → List Addr} {mods : List Nat} (R : Real c G1 S1 As1 τ σ H1) (P1 : Post mods S S1 As As1 G G1 H H1) (ok : AvOk c.E G1 (env σ τ) as vs) (ain : AvIn bs σ as)
    (h : fin c W (callV n io f as S1) fun o S' => ∀ v A G' As' H', Real c G' S' As' τ σ H' → Post (mods ++ bs) S S' As As' G G' H H' → Ro c.E G' H' o v A → New c G' As' A → Frs (mods ++ bs) As H A → Q v H') : spM c.E n io f vs H1 Q W := by
  refine call_core (bs := bs) R ok (fun i hi => ⟨(ain.1 i hi).1, env_ge (ain.1 i hi).2⟩) (fun i hi => env_ge (ain.2 i hi)) (fin_mono h fun o S2 e k v A G' As' H' R' P' r N fA => ?_)
  refine k v A G' As' H' R' (P1.trans P') r N fun a ha => ?_
  left
  cases q : H a with
  | none => rfl
  | some o => exact absurd (fA a ha) (P1.stay a (by rw [q]; exact fun z => nomatch z))
end
section
variable {X : Cx} {c : Ctx} {W : XK} {mods bs m1 m2 : List Nat} {n k : Nat} {io : List Nat} {f : Fn} {fa C : Addr} {fd : FuncData} {ps ks : List Str} {x m : Str} {p pos apos : Pos} {e o : Expr} {es : List Expr} {kws : List Keyword} {ma mk : M (List Av)} {mo : M D} {dds : List D} {dvs : List V} {ds : List Value} {nd : Nat}
/-- a call's mirror; dds: defaults -/
def mCallD (n : Nat) (io : List Nat) (f : Fn) (dds : List D) (m : M (List Av)) : M O := fun S => (m S).bd fun as S1 => callV n io f (as ++ dds.map .d) S1
theorem zCallD (F : FnG X.prog X.w X.K X.mg X.base (L2.CX X.prog X.w) k fa fd ps (spM c.E n io f)) (hr : Room k X.A) (hgd : X.A.guards = some []) (hg : Gl X x) (hm : X.mg x = some (.ref fa)) (hk : PySem.W.keepIn X.K (.ref fa) = true) (hb : Binds X.K fd ps ds) (hd : Vals dvs ds) (hdd : ∀ G, RsL c.E G dds dvs)
    (hx : Passes (L2.CX X.prog X.w) X W) (ha : PA X (e :: es) (tAg c W mods bs ma)) (hdb : (x == ("__debug__" : Str)) = false := by decide) (he : starEach (e :: es) X.env = (false, eval e X.env) :: starEach es X.env := by rfl) (hpl : (backTo pos (starEach es X.env)).any (·.1) = false := by rfl) :
    PE X (.Call (.Name x p) (e :: es) [] pos) (tO c W (mods ++ bs) (mCallD n io f dds ma)) := PEw (pe_callG F hr hgd hg hm hk hb hd hx ha hdb he hpl) fun σ H Q ⟨G, S, As, τ, R, q⟩ => by
  refine ⟨G, S, As, τ, R, fin_mono (fin_bd q) fun as S1 e1 k => ?_⟩
  intro vs G1 As1 H1 R1 P1 ok ain
  exact call_from (g := id) R1 P1 (AvOk.append ok (AvOk.ds (hdd G1))) (ain.append AvIn.ds) k
/-- no defaults -/
theorem zCall (F : FnG X.prog X.w X.K X.mg X.base (L2.CX X.prog X.w) k fa fd ps (spM c.E n io f)) (hr : Room k X.A) (hgd : X.A.guards = some []) (hg : Gl X x) (hm : X.mg x = some (.ref fa)) (hk : PySem.W.keepIn X.K (.ref fa) = true) (hb : Binds X.K fd ps [])
    (hx : Passes (L2.CX X.prog X.w) X W) (ha : PA X (e :: es) (tAg c W mods bs ma)) (hdb : (x == ("__debug__" : Str)) = false := by decide) (he : starEach (e :: es) X.env = (false, eval e X.env) :: starEach es X.env := by rfl) (hpl : (backTo pos (starEach es X.env)).any (·.1) = false := by rfl) :
    PE X (.Call (.Name x p) (e :: es) [] pos) (tO c W (mods ++ bs) (mCall n io f ma)) := PEw (pe_callG F hr hgd hg hm hk hb .nil hx ha hdb he hpl) fun σ H Q ⟨G, S, As, τ, R, q⟩ => by
  refine ⟨G, S, As, τ, R, fin_mono (fin_bd q) fun as S1 e1 k => ?_⟩
  intro vs G1 As1 H1 R1 P1 ok ain
  rw [List.append_nil]
  exact call_from (g := id) R1 P1 ok ain k
/-! methods -/
theorem pe_methG {pl : Sem Bool} {ta : TE} {t : TA} {sp : Sp} (he : PE X o ta) (cl : Cls X.K C) (hm : Meth X.K C m fa) (F : FnG X.prog X.w X.K X.mg X.base (L2.CX X.prog X.w) k fa fd ps sp) (hr : Room k X.A) (hgd : X.A.guards = some []) (hb : Binds X.K fd ps ds) (hd : Vals dvs ds) (hx : Passes (L2.CX X.prog X.w) X W) (ha : PA X (e :: es) t)
    (hst : starEach (e :: es) X.env = (false, eval e X.env) :: starEach es X.env := by rfl) (hpl : (backTo pos (starEach es X.env)).any (·.1) = false := by rfl)
    (ht : eval (.Call (.Attribute o m apos) (e :: es) [] pos) X.env = (do
      let ov ← eval o X.env
      standAt apos.atName
      let (g, first) ← holding [ov] (getMethod ov m pl)
      callWith pos g first (backTo pos (starEach (e :: es) X.env)) (backToKw pos (keywordEach [] X.env))) := by rfl) :
    PE X (.Call (.Attribute o m apos) (e :: es) [] pos) (tMeth C m sp dvs W ta t) := ⟨fun pins s σ H Q I h => by
  refine PySem.W.methodCall_KW (pl := pl) (thn (he.run pins s σ H _ I h) fun u s1 hq => ?_) ht
  obtain ⟨v, H1, I1, rv, a, dx, fs, rfl, ea, l, q⟩ := hq
  obtain rfl : u = Value.ref a := rv
  refine getmeth_ok I1 ea cl hm l (PySem.W.callWith_K (first := [.ref a]) (h₀ := X.base) I.ok.mod.kin hm.kp (thn (ha.run pos pins s1 σ H1 _ I1 q) fun us s2 hq2 => ?_) hst hpl)
  obtain ⟨vs, H2, I2, r, q2⟩ := hq2
  exact ⟨I2.kIn, runG (us := .ref a :: us) (vs := .ref a :: vs) F hr hgd hb hd hx I2 (.cons rfl r) q2⟩⟩
theorem pe_methG0 {pl : Sem Bool} {ta : TE} {sp : Sp} (he : PE X o ta) (cl : Cls X.K C) (hm : Meth X.K C m fa) (F : FnG X.prog X.w X.K X.mg X.base (L2.CX X.prog X.w) k fa fd ps sp) (hr : Room k X.A) (hgd : X.A.guards = some []) (hb : Binds X.K fd ps ds) (hd : Vals dvs ds) (hx : Passes (L2.CX X.prog X.w) X W)
    (ht : eval (.Call (.Attribute o m apos) [] [] pos) X.env = (do
      let ov ← eval o X.env
      standAt apos.atName
      let (g, first) ← holding [ov] (getMethod ov m pl)
      callWith pos g first (backTo pos (starEach [] X.env)) (backToKw pos (keywordEach [] X.env))) := by rfl) :
    PE X (.Call (.Attribute o m apos) [] [] pos) (tMeth C m sp dvs W ta tNil) := ⟨fun pins s σ H Q I h => by
  refine PySem.W.methodCall_KW (pl := pl) (thn (he.run pins s σ H _ I h) fun u s1 hq => ?_) ht
  obtain ⟨v, H1, I1, rv, a, dx, fs, rfl, ea, l, q⟩ := hq
  obtain rfl : u = Value.ref a := rv
  exact getmeth_ok I1 ea cl hm l (PySem.W.callWith_K0 (first := [.ref a]) I1.kIn hm.kp (runG (us := [.ref a]) (vs := [.ref a]) F hr hgd hb hd hx I1 (.cons rfl .nil) q))⟩
/-- o.m(..), o an instance of the class called C that is shared -/
def mMeth (C m : Str) (n : Nat) (io : List Nat) (f : Fn) (mo : M D) (ma : M (List Av)) : M O := fun S => (mo S).bd fun d S0 => match d with
  | .obj C' fs ds => match decide (C' = C) && !fs.contains m with
    | true => (ma S0).bd fun as S1 => callV n io f (.d (.obj C' fs ds) :: as) S1
    | false => .bad
  | _ => .bad
theorem lookup_none {fs : List (Str × V)} {m : Str} (h : ((fs.map (·.1)).contains m) = false) : fs.lookup m = none := by
  induction fs with
  | nil => rfl
  | cons q r ih =>
    obtain ⟨a, b⟩ := q
    rw [List.map_cons, List.contains_cons, Bool.or_eq_false_iff] at h
    rw [List.lookup_cons, h.1]
    exact ih h.2
theorem w_meth {cn : Str} {t : TA} (hC : c.E.ca cn = C) (ht : ∀ σ H Q, tAg c W m2 bs ma σ H Q → t σ H Q) (σ : L2.St) (H : Hp) (Q : VK) (h : tO c W (m1 ++ (m2 ++ bs)) (mMeth cn m n io f mo ma) σ H Q) : tMeth C m (spM c.E n io f) [] W (tE c W true m1 mo) t σ H Q := by
  obtain ⟨G, S, As, τ, R, q⟩ := h
  refine ⟨G, S, As, τ, R, fin_mono (fin_bd q) fun d S1 e1 k => ?_⟩
  intro v G1 As1 H1 R1 P1 r1
  cases d with
  | obj C' fs ds =>
    have k' : fin c W (match decide (C' = cn) && !fs.contains m with
      | true => (ma S1).bd fun as S1 => callV n io f (.d (.obj C' fs ds) :: as) S1
      | false => .bad) _ := k
    cases hq : decide (C' = cn) && !fs.contains m with
    | false => simp only [hq] at k'; exact k'.elim
    | true =>
      simp only [hq] at k'
      rw [Bool.and_eq_true] at hq
      have eC : C' = cn := of_decide_eq_true hq.1
      have r1' := r1
      unfold Rs at r1'
      obtain ⟨a, dx, fv, rfl, h2, h3, h4⟩ := r1'
      refine ⟨a, dx, fv, rfl, ?_, lookup_none (by rw [h3]; simpa using hq.2), ht σ H1 _ ⟨G1, S1, As1, τ, R1, fin_mono (fin_bd k') fun as S2 e2 k2 => ?_⟩⟩
      · rw [← hC, ← eC]
        exact R1.exG.hard h2 rfl
      · intro vs G2 As2 H2 R2 P2 ok ain
        rw [List.append_nil]
        have P3 := P1.trans P2
        refine call_from (g := id) R2 P3 (show AvOk c.E G2 (env σ τ) (.d (.obj C' fs ds) :: as) (.ref a :: vs) from ⟨.ref a, vs, rfl, Rs.mono P2.exG r1, ok⟩) ain.d (fin_mono k2 fun o S3 _ k3 v A G' As' H' R' P' r N F => k3 v A G' As' H' R' (P'.mono fun j hj => ?_) r N (Frs.mono F fun j hj => ?_))
        · rw [List.append_assoc] at hj; exact hj
        · rw [List.append_assoc] at hj; exact hj
  | _ => exact k.elim
theorem zMeth {cn : Str} {pl : Sem Bool} (hC : c.E.ca cn = C) (ho : PE X o (tE c W true m1 mo)) (cl : Cls X.K C) (hm : Meth X.K C m fa) (F : FnG X.prog X.w X.K X.mg X.base (L2.CX X.prog X.w) k fa fd ps (spM c.E n io f)) (hr : Room k X.A) (hgd : X.A.guards = some []) (hb : Binds X.K fd ps []) (hx : Passes (L2.CX X.prog X.w) X W)
    (ha : PA X (e :: es) (tAg c W m2 bs ma)) (hst : starEach (e :: es) X.env = (false, eval e X.env) :: starEach es X.env := by rfl) (hpl : (backTo pos (starEach es X.env)).any (·.1) = false := by rfl)
    (ht : eval (.Call (.Attribute o m apos) (e :: es) [] pos) X.env = (do
      let ov ← eval o X.env
      standAt apos.atName
      let (g, first) ← holding [ov] (getMethod ov m pl)
      callWith pos g first (backTo pos (starEach (e :: es) X.env)) (backToKw pos (keywordEach [] X.env))) := by rfl) :
    PE X (.Call (.Attribute o m apos) (e :: es) [] pos) (tO c W (m1 ++ (m2 ++ bs)) (mMeth cn m n io f mo ma)) := PEw (pe_methG ho cl hm F hr hgd hb .nil hx ha hst hpl ht) (w_meth hC fun _ _ _ q => q)
theorem zMeth0 {cn : Str} {pl : Sem Bool} (hC : c.E.ca cn = C) (ho : PE X o (tE c W true m1 mo)) (cl : Cls X.K C) (hm : Meth X.K C m fa) (F : FnG X.prog X.w X.K X.mg X.base (L2.CX X.prog X.w) k fa fd ps (spM c.E n io f)) (hr : Room k X.A) (hgd : X.A.guards = some []) (hb : Binds X.K fd ps []) (hx : Passes (L2.CX X.prog X.w) X W)
    (ht : eval (.Call (.Attribute o m apos) [] [] pos) X.env = (do
      let ov ← eval o X.env
      standAt apos.atName
      let (g, first) ← holding [ov] (getMethod ov m pl)
      callWith pos g first (backTo pos (starEach [] X.env)) (backToKw pos (keywordEach [] X.env))) := by rfl) :
    PE X (.Call (.Attribute o m apos) [] [] pos) (tO c W (m1 ++ ([] ++ [])) (mMeth cn m n io f mo (mC []))) := PEw (pe_methG0 ho cl hm F hr hgd hb .nil hx ht) (w_meth (bs := []) hC w_a0)
/-- attributes of shared instances -/
def dAt (x : Str) (d : D) : Option D := match d with
  | .obj _ fs ds => ((fs.zip ds).lookup x)
  | _ => none
theorem lookup_rel {E : Ev} {H : Hp} {x : Str} {d : D} : ∀ {fv : List (Str × V)} {ds : List D}, RsL E H ds (fv.map (·.2)) → ((fv.map (·.1)).zip ds).lookup x = some d → ∃ v, fv.lookup x = some v ∧ Rs E H d v
  | [], ds, h, e => by cases e
  | (a, b) :: r, ds, h, e => by
    cases ds with
    | nil =>
      unfold RsL at h
      cases h
    | cons d' ds =>
      have h' : RsL E H (d' :: ds) (b :: r.map (·.2)) := h
      unfold RsL at h'
      obtain ⟨v, r', e1, h2, h3⟩ := h'
      cases e1
      have e' : ((a, d') :: (r.map (·.1)).zip ds).lookup x = some d := e
      rw [List.lookup_cons] at e'
      rw [List.lookup_cons]
      cases hx : x == a with
      | true =>
        rw [hx] at e'
        cases e'
        exact ⟨b, rfl, h2⟩
      | false =>
        rw [hx] at e'
        exact lookup_rel h3 e'
def dAtC (cn x : Str) (d : D) : Option D := match d with
  | .obj C _ _ => match decide (C = cn) with
    | true => dAt x d
    | false => none
  | _ => none
theorem zAtt {cn : Str} {md : Bool} (hC : c.E.ca cn = C) (he : PE X e (tE c W md m1 mo)) (cl : Cls X.K C) (hn : NoAttr X.K C x) (hb : attributeBase e x X.env (eval e X.env) = eval e X.env := by rfl) : PE X (.Attribute e x pos) (tE c W md m1 (m1x (dAtC cn x) mo)) := PEw (pe_fld he hb) fun σ H Q ⟨G, S, As, τ, R, q⟩ => by
  refine ⟨G, S, As, τ, R, fin_mono (fin_bd q) fun d S1 e1 k => ?_⟩
  intro v G1 As1 H1 R1 P1 r1
  cases hf : dAtC cn x d with
  | none => rw [hf] at k; exact k.elim
  | some d' =>
    rw [hf] at k
    cases d with
    | obj C' fs ds =>
      have hf' : (match decide (C' = cn) with | true => (fs.zip ds).lookup x | false => none) = some d' := hf
      cases hq : decide (C' = cn) with
      | false => rw [hq] at hf'; cases hf'
      | true =>
        rw [hq] at hf'
        have eC : C' = cn := of_decide_eq_true hq
        unfold Rs at r1
        obtain ⟨a, dx, fv, rfl, h2, h3, h4⟩ := r1
        subst h3
        obtain ⟨w, h5, h6⟩ := lookup_rel h4 hf'
        refine ⟨a, C, dx, fv, w, rfl, ?_, cl, hn, h5, k w G1 As1 H1 R1 P1 h6⟩
        rw [← hC, ← eC]
        exact (hp_ex R1.exG).hard h2 rfl
    | _ => cases hf
end
end Z

/-! Z11: instances made; calls with keywords. -/
namespace Z
open PySem PySem.Spec PyProof.Rows L2
theorem AvOk.env {E : Ev} {G : Hp} {σ σ' : L2.St} (e : ∀ (i : Nat) (v : V), σ[i]? = some (some v) → σ'[i]? = some (some v)) : ∀ {as : List Av} {vs : List V}, AvOk E G σ as vs → AvOk E G σ' as vs
  | [], _, h => h
  | .d d :: r, vs, h => by
    obtain ⟨v, ws, h1, h2, h3⟩ := h
    exact ⟨v, ws, h1, h2, AvOk.env e h3⟩
  | .s i :: r, vs, h => by
    obtain ⟨v, ws, h1, h2, h3⟩ := h
    exact ⟨v, ws, h1, e i v h2, AvOk.env e h3⟩
  | .b i :: r, vs, h => by
    obtain ⟨v, ws, h1, h2, h3⟩ := h
    exact ⟨v, ws, h1, e i v h2, AvOk.env e h3⟩
theorem env_push {σ : L2.St} {τ : List V} {v : V} : env σ (τ ++ [v]) = env σ τ ++ [some v] := by
  unfold Z.env
  rw [List.map_append, List.append_assoc]
  rfl
def isNonO : O → Bool
  | .sh .non => true
  | _ => false
def makeV (cn : Str) (n : Nat) (io : List Nat) (f : Fn) (as : List Av) : M O := fun S1 => (callV n io f (.b S1.length :: as) (S1 ++ [.ow (.obj cn [] [])])).bd fun r S2 => match isNonO r, S2.getLast? with
  | true, some (.ow o) => .ok o S2.dropLast
  | _, _ => .bad
section
variable {c : Ctx} {W : XK} {G1 H1 : Hp} {S1 : List Sl} {As1 : Nat → List Addr} {τ : List V} {σ : L2.St} {as : List Av} {vs : List V} {n : Nat} {io bs : List Nat} {Q : VK}
theorem make_core {f : Fn} {cn : Str} {x dx : Addr} (R : Real c G1 S1 As1 τ σ H1) (ok : AvOk c.E G1 (env σ τ) as vs) (ain : AvIn bs σ as) (hio : ∀ i ∈ c.io, i < σ.length) (hx : H1 x = none) (hdx : H1 dx = none) (hne : dx ≠ x)
    (h : fin c W (makeV cn n io f as S1) fun o S' => ∀ v A G' As' H', Real c G' S' As' τ σ H' → Post bs S1 S' As1 As' G1 G' H1 H' → Ro c.E G' H' o v A → New c G' As' A → Frs bs As1 H1 A → Q v H') :
    spM c.E n io f (.ref x :: vs) (upd (upd H1 dx (.own x)) x (.ins (c.E.ca cn) dx [])) (fun v H2 => v = .non ∧ Q (.ref x) H2) W := by
  have hxa : (upd H1 dx (.own x)) x = none := by rw [upd_ne hne.symm]; exact hx
  have kp : Keep H1 (upd (upd H1 dx (.own x)) x (.ins (c.E.ca cn) dx [])) := (Keep.new hdx).trans (Keep.new hxa)
  have R' := R.keep kp
  have N1 := R.new1 hx
  have RP := R'.push (o := .obj cn [] []) (v := .ref x) (A := [x]) N1 (by
    unfold Ro
    exact ⟨x, dx, [], [], rfl, rfl, upd_same, rfl, by unfold RoL; exact ⟨rfl, rfl⟩⟩)
  have el : (env σ τ).length = S1.length := by rw [env_len, R.len]
  have hl : S1.length ∉ c.io := fun z => by
    have := hio _ z
    have := R.len
    omega
  have ok2 : AvOk c.E G1 (env σ (τ ++ [.ref x])) (.b S1.length :: as) (.ref x :: vs) := by
    refine ⟨.ref x, vs, rfl, ?_, AvOk.env (fun i v e => ?_) ok⟩
    · rw [env_push, List.getElem?_append_right (by omega), el, Nat.sub_self]
      rfl
    · rw [env_push, List.getElem?_append_left (List.getElem?_eq_some_iff.mp e).1]
      exact e
  have el2 : (env σ (τ ++ [.ref x])).length = S1.length + 1 := by
    rw [env_push, List.length_append, el]
    rfl
  have sl : ∀ j, j < σ.length → j < S1.length := fun j hj => by have := R.len; omega
  refine call_core (bs := S1.length :: bs) RP ok2 (fun i hi => ?_) (fun i hi => ?_) (fin_mono (fin_bd h) fun r S2 e k => ?_)
  · rcases List.mem_cons.mp hi with e | hi
    · cases e
      exact ⟨List.mem_cons_self, by omega⟩
    · obtain ⟨a, b⟩ := ain.1 i hi
      have := sl i b
      exact ⟨List.mem_cons_of_mem _ a, by omega⟩
  · rcases List.mem_cons.mp hi with e | hi
    · cases e
    · have := sl i (ain.2 i hi)
      omega
  · intro v A G' As' H' R2 P2 r2 N2 fA
    have k' : fin c W (match isNonO r, S2.getLast? with
      | true, some (.ow o) => Out.ok o S2.dropLast
      | _, _ => .bad) _ := k
    cases hr : isNonO r with
    | false => rw [hr] at k'; exact k'.elim
    | true =>
      cases hg : S2.getLast? with
      | none => rw [hr, hg] at k'; exact k'.elim
      | some s =>
        cases s with
        | no => rw [hr, hg] at k'; exact k'.elim
        | pl d => rw [hr, hg] at k'; exact k'.elim
        | ow o =>
          rw [hr, hg] at k'
          have ev : v = .non := by
            unfold isNonO at hr
            split at hr
            · unfold Ro at r2
              have := r2.2
              unfold Rs at this
              exact this
            · cases hr
          refine ⟨ev, ?_⟩
          have eS : S2 = S2.dropLast ++ [.ow o] := by
            obtain ⟨ys, hys⟩ := List.getLast?_eq_some_iff.mp hg
            rw [hys, List.dropLast_concat]
          have ld : S2.dropLast.length = S1.length := by
            have := P2.len
            rw [List.length_append] at this
            rw [List.length_dropLast, this]
            rfl
          rw [eS] at R2
          obtain ⟨ro, R3, N3⟩ := R2.pop
          rw [ld] at ro R3 N3
          have nb : ∀ j ∈ bs, (∃ i, Av.b i ∈ as ∧ i = j) ∨ True := fun _ _ => .inr trivial
          have ux : ∀ {j : Nat} {a : Addr}, H1 a ≠ none → (∀ k ∈ bs, a ∉ As1 k) → ∀ k ∈ S1.length :: bs, a ∉ upA As1 S1.length [x] k := fun {j a} ha hn k hk z => by
            by_cases e : k = S1.length
            · rw [e, upA_same] at z
              obtain rfl : a = x := by simpa using z
              exact ha hx
            · rw [upA_ne e] at z
              exact hn k ((List.mem_cons.mp hk).resolve_left e) z
          have old : ∀ {a : Addr}, (upd (upd H1 dx (.own x)) x (.ins (c.E.ca cn) dx [])) a = none → H1 a = none := fun {a} z => by
            cases q : H1 a with
            | none => rfl
            | some u => exact absurd z (by rw [kp a u q]; exact fun z => nomatch z)
          have nw : ∀ {j : Nat} {a : Addr}, a ∈ As' j → (j ≠ S1.length ∧ a ∈ As1 j) ∨ (∃ k ∈ bs, a ∈ As1 k) ∨ H1 a = none := fun {j a} z => by
            rcases P2.new j a z with q | ⟨k, hk, q⟩ | q
            · by_cases e : j = S1.length
              · rw [e, upA_same] at q
                obtain rfl : a = x := by simpa using q
                exact .inr (.inr hx)
              · rw [upA_ne e] at q
                exact .inl ⟨e, q⟩
            · by_cases e : k = S1.length
              · rw [e, upA_same] at q
                obtain rfl : a = x := by simpa using q
                exact .inr (.inr hx)
              · rw [upA_ne e] at q
                exact .inr (.inl ⟨k, (List.mem_cons.mp hk).resolve_left e, q⟩)
            · exact .inr (.inr (old q))
          refine k' (.ref x) (As' S1.length) G' (upA As' S1.length []) H' R3 ⟨P2.exG, fun j hj => ?_, fun a u e hn => P2.frm a u (kp a u e) (ux (j := 0) (by rw [e]; exact fun z => nomatch z) hn), fun j a z => ?_, fun a z => P2.stay a (kp.stay z), ld, fun a z hn => P2.gn a (kp.stay z) (ux (j := 0) z hn)⟩ ro (N3 hl) (fun a ha => ?_)
          · by_cases e : j = S1.length
            · subst e
              refine ⟨?_, ?_⟩
              · rw [List.getElem?_eq_none (by omega), List.getElem?_eq_none (by omega)]
              · rw [upA_same, R.emp _ (Nat.le_refl _)]
            · obtain ⟨q1, q2⟩ := P2.same j fun z => (List.mem_cons.mp z).elim e hj
              rw [upA_ne e] at q2
              rw [upA_ne e]
              refine ⟨?_, q2⟩
              by_cases hlt : j < S1.length
              · rw [eS, List.getElem?_append_left (by omega), List.getElem?_append_left hlt] at q1
                exact q1
              · rw [List.getElem?_eq_none (by omega), List.getElem?_eq_none (by omega)]
          · by_cases e : j = S1.length
            · rw [e, upA_same] at z; cases z
            · rw [upA_ne e] at z
              rcases nw z with q | q | q
              · exact .inl q.2
              · exact .inr (.inl q)
              · exact .inr (.inr q)
          · rcases nw ha with q | q | q
            · exact absurd rfl q.1
            · exact .inr q
            · exact .inl q
end
section
variable {X : Cx} {c : Ctx} {W : XK} {mods bs m1 m2 : List Nat} {n k nn : Nat} {io : List Nat} {f : Fn} {fa C : Addr} {fd : FuncData} {ps ks : List Str} {x m : Str} {p pos apos : Pos} {e o : Expr} {es : List Expr} {kws : List Keyword} {ma mk : M (List Av)} {mo : M D} {sp : Sp} {g : List Value → List Value → List Value} {gV : List V → List V → List V} {t tk : TA}
theorem run_makeG {pins : List (Addr × Obj)} {σ : L2.St} {H : Hp} {s : Shared} {Q : VK} {us ws : List Value} {vs zs : List V} (Mc : Mk X.K C fa) (F : FnG X.prog X.w X.K X.mg X.base (L2.CX X.prog X.w) k fa fd ps sp) (hr : Room (k + 1) X.A) (hgd : X.A.guards = some []) (hb : KBn X.K fd ps (nn + 1) ks g gV)
    (hx : Passes (L2.CX X.prog X.w) X W) (I : Inv X pins σ H s) (r : Vals vs us) (rz : Vals zs ws) (l1 : vs.length = nn) (l2 : zs.length = ks.length)
    (h : ∀ x dx, H x = none → H dx = none → dx ≠ x → sp (gV (.ref x :: vs) zs) (upd (upd H dx (.own x)) x (.ins C dx [])) (fun v H2 => v = .non ∧ Q (.ref x) H2) W) :
    wpAny (model X.prog X.w) X.A (call (.ref C) us (ks.zip ws)) (EP X pins σ Q) X.xe s := by
  have want := h (s.heap.objs.size + 1) s.heap.objs.size (I.hok.fresh (Nat.le_succ _)) (I.hok.fresh (Nat.le_refl _)) (Nat.ne_of_lt (Nat.lt_succ_self _))
  have J := Inv.made (C := C) I
  have ra : Vals (V.ref (s.heap.objs.size + 1) :: vs) (Value.ref (s.heap.objs.size + 1) :: us) := .cons rfl r
  have rb := hb.rel ra rz
  have lu : (Value.ref (s.heap.objs.size + 1) :: us).length = nn + 1 := ra.length.symm.trans (congrArg Nat.succ l1)
  have lw : ws.length = ks.length := rz.length.symm.trans l2
  have gd : (X.A.under (.builtin "type.__call__" ⟨.ref C :: us, ks.zip ws⟩)).guards = some [] := by
    have e0 : (Code.builtin "type.__call__" ⟨.ref C :: us, ks.zip ws⟩).guards = [] := by
      unfold Code.guards
      rw [show (Code.builtin "type.__call__" ⟨.ref C :: us, ks.zip ws⟩).isGuard = false by rfl]
      rfl
    unfold Around.under
    simp only [e0, hgd]
    rfl
  have body := F.run _ X.stack _ _ ⟨Value.ref (s.heap.objs.size + 1) :: us, ks.zip ws⟩ (g (Value.ref (s.heap.objs.size + 1) :: us) ws) _ _ W (hr.make C us (ks.zip ws)) gd (J.env0.make C us (ks.zip ws)) (hb.to _ (Value.ref (s.heap.objs.size + 1) :: us) ws J.kIn lu lw) rb want
  refine wpAny_call (make_map (f := fa) I.kIn Mc.makes Mc.init (beq_iff_eq.mp Mc.fn) (codeAny_mono body fun res s2 hres => ?_))
  match res, hres with
  | .error e2, hres => exact hx pins σ _ _ e2 s2 J hres
  | .ok (.ret u), hres =>
    obtain ⟨v, H', I3, rv, ev, q3⟩ := J.after hres
    subst ev
    exact ⟨rv, ⟨V.ref (s.heap.objs.size + 1), H', I3, rfl, q3⟩⟩
theorem pe_makeG (Mc : Mk X.K C fa) (F : FnG X.prog X.w X.K X.mg X.base (L2.CX X.prog X.w) k fa fd ps sp) (hr : Room (k + 1) X.A) (hgd : X.A.guards = some []) (hg : Gl X x) (hm : X.mg x = some (.ref C)) (hb : KBn X.K fd ps (nn + 1) ks g gV) (hx : Passes (L2.CX X.prog X.w) X W)
    (ha : PA X (e :: es) t) (hkw : PK X kws tk) (hall : (backToKw pos (keywordEach kws X.env)).all (·.1.isSome) = true := by rfl) (hks : (backToKw pos (keywordEach kws X.env)).filterMap (·.1) = ks := by rfl)
    (hdb : (x == ("__debug__" : Str)) = false := by decide) (he : starEach (e :: es) X.env = (false, eval e X.env) :: starEach es X.env := by rfl)
    (hpl : ((backTo pos (starEach (e :: es) X.env)).any (·.1) || (backToKw pos (keywordEach kws X.env)).any (·.1.isNone)) = false := by rfl) :
    PE X (.Call (.Name x p) (e :: es) kws pos) (tMakeN C nn ks.length sp gV W t tk) := ⟨fun pins s σ H Q I h => by
  have pos_ := ha.run pos pins s σ H _ I h
  refine wpAny_Call_Name_kw (ld_glob I hg hm (PySem.W.callWith_KW (h₀ := X.base) I.ok.mod.kin Mc.kp hall (thn pos_ fun us s1 hq => ?_) hpl he) hdb)
  obtain ⟨vs, H1, I1, r, q⟩ := hq
  refine thn (hkw.run pos pins s1 σ H1 _ I1 q) fun ws s2 hq2 => ?_
  obtain ⟨zs, H2, I2, rz, l1, l2, q2⟩ := hq2
  rw [hks]
  exact ⟨I2.kIn, run_makeG Mc F hr hgd hb hx I2 r rz l1 l2 q2⟩⟩
/-- C(e, .., k = v, ..): gA puts arguments, keywords (and defaults) in the parameters' order -/
def mMake (cn : Str) (n : Nat) (io : List Nat) (f : Fn) (nn kn : Nat) (gA : List Av → List Av → List Av) (ma mk : M (List Av)) : M O := fun S => (ma S).bd fun as S1 => (mk S1).bd fun zs S2 => match decide (as.length = nn ∧ zs.length = kn) with
  | true => makeV cn n io f (gA as zs) S2
  | false => .bad
theorem zMake {cn : Str} {gA : List Av → List Av → List Av} (hC : c.E.ca cn = C) (hio : ∀ i ∈ c.io, i < X.N.length) (Mc : Mk X.K C fa) (F : FnG X.prog X.w X.K X.mg X.base (L2.CX X.prog X.w) k fa fd ps (spM c.E n io f)) (hr : Room (k + 1) X.A) (hgd : X.A.guards = some []) (hg : Gl X x) (hm : X.mg x = some (.ref C))
    (hb : KBn X.K fd ps (nn + 1) ks g gV) (hx : Passes (L2.CX X.prog X.w) X W)
    (hgA : ∀ (G : Hp) (σ : L2.St) (as zs : List Av) (vs ws : List V) (v : V), as.length = nn → zs.length = ks.length → AvOk c.E G σ as vs → AvOk c.E G σ zs ws → ∃ us, gV (v :: vs) ws = v :: us ∧ AvOk c.E G σ (gA as zs) us)
    (hgI : ∀ (σ : L2.St) (as zs : List Av), AvIn bs σ as → AvIn bs σ zs → AvIn bs σ (gA as zs))
    (ha : PA X (e :: es) (tAg c W m1 bs ma)) (hkw : PK X kws (tAg c W m2 bs mk)) (hall : (backToKw pos (keywordEach kws X.env)).all (·.1.isSome) = true := by rfl) (hks : (backToKw pos (keywordEach kws X.env)).filterMap (·.1) = ks := by rfl)
    (hdb : (x == ("__debug__" : Str)) = false := by decide) (he : starEach (e :: es) X.env = (false, eval e X.env) :: starEach es X.env := by rfl)
    (hpl : ((backTo pos (starEach (e :: es) X.env)).any (·.1) || (backToKw pos (keywordEach kws X.env)).any (·.1.isNone)) = false := by rfl) :
    PE X (.Call (.Name x p) (e :: es) kws pos) (tO c W ((m1 ++ m2) ++ bs) (mMake cn n io f nn ks.length gA ma mk)) := PEl (pe_makeG Mc F hr hgd hg hm hb hx ha hkw hall hks hdb he hpl) fun σ H Q hlen ⟨G, S, As, τ, R, q⟩ => by
  refine ⟨G, S, As, τ, R, fin_mono (fin_bd q) fun as S1 e1 k1 => ?_⟩
  intro vs G1 As1 H1 R1 P1 ok1 in1
  refine ⟨G1, S1, As1, τ, R1, fin_mono (fin_bd k1) fun zs S2 e2 k2 => ?_⟩
  intro ws G2 As2 H2 R2 P2 ok2 in2
  have k3 : fin c W (match decide (as.length = nn ∧ zs.length = ks.length) with
    | true => makeV cn n io f (gA as zs) S2
    | false => .bad) _ := k2
  cases hd : decide (as.length = nn ∧ zs.length = ks.length) with
  | false => rw [hd] at k3; exact k3.elim
  | true =>
    rw [hd] at k3
    have hd' := of_decide_eq_true hd
    have ok1' := AvOk.mono P2.exG ok1
    refine ⟨(AvOk.len ok1).symm.trans hd'.1, (AvOk.len ok2).symm.trans hd'.2, fun xa dx hx0 hdx0 hne => ?_⟩
    obtain ⟨us, eu, oku⟩ := hgA G2 (env σ τ) as zs vs ws (.ref xa) hd'.1 hd'.2 ok1' ok2
    rw [eu, ← hC]
    have P3 := P1.trans P2
    refine make_core (bs := bs) R2 oku (hgI σ as zs in1 in2) (fun i hi => by rw [hlen]; exact hio i hi) hx0 hdx0 hne (fin_mono k3 fun o S3 _ k4 v A G' As' H' R' P' r N F => k4 v A G' As' H' R' (P3.trans P') r N (Frs.later P3 F))
end
end Z

/-! Z12: things of one's own, changed in place. -/
namespace Z
open PySem PySem.Spec PyProof.Rows L2
/-- a way into a thing: the item at a place, an attribute -/
inductive Stp where
  | ix (j : Nat) | at (x : Str)
def fIdx (x : Str) (fs : List Str) : Nat := fs.findIdx (· == x)
def kids : O → Stp → Option (List O × Nat)
  | .lst os, .ix j => some (os, j)
  | .tup os, .ix j => some (os, j)
  | .obj _ fs os, .at x => some (os, fIdx x fs)
  | _, _ => none
def oget : O → List Stp → Option O
  | o, [] => some o
  | o, s :: p => match kids o s with
    | some (os, j) => match os[j]? with
      | some o' => oget o' p
      | none => none
    | none => none
def okids : O → List O → O
  | .lst _, os => .lst os
  | .tup _, os => .tup os
  | .obj C fs _, os => .obj C fs os
  | o, _ => o
def oput : O → List Stp → O → O
  | _, [], n => n
  | o, s :: p, n => match kids o s with
    | some (os, j) => match os[j]? with
      | some o' => okids o (os.set j (oput o' p n))
      | none => o
    | none => o
/-- w stands where the way p leads from v -/
def PathV (H : Hp) : V → List Stp → V → Prop
  | v, [], w => w = v
  | v, .ix j :: p, w => ∃ a xs x, v = .ref a ∧ (H a = some (.lst xs) ∨ H a = some (.tup xs)) ∧ xs[j]? = some x ∧ PathV H x p w
  | v, .at f :: p, w => ∃ a C dx fs x, v = .ref a ∧ H a = some (.ins C dx fs) ∧ (fs.map (·.2))[fIdx f (fs.map (·.1))]? = some x ∧ PathV H x p w
theorem PathV.det {H : Hp} : ∀ {p : List Stp} {v w w' : V}, PathV H v p w → PathV H v p w' → w = w'
  | [], v, w, w', h, k => by
    have h1 : w = v := h
    have h2 : w' = v := k
    rw [h1, h2]
  | .ix j :: p, v, w, w', h, k => by
    obtain ⟨a, xs, x, e1, h2, h3, h4⟩ := h
    obtain ⟨b, ys, y, e2, k2, k3, k4⟩ := k
    rw [e1] at e2
    cases e2
    have : xs = ys := by
      rcases h2 with h2 | h2 <;> rcases k2 with k2 | k2 <;> rw [h2] at k2 <;> first | (cases k2; rfl) | cases k2
    subst this
    rw [h3] at k3
    cases k3
    exact PathV.det h4 k4
  | .at f :: p, v, w, w', h, k => by
    obtain ⟨a, C, dx, fs, x, e1, h2, h3, h4⟩ := h
    obtain ⟨b, C', dx', fs', y, e2, k2, k3, k4⟩ := k
    rw [e1] at e2
    cases e2
    rw [h2] at k2
    cases k2
    rw [h3] at k3
    cases k3
    exact PathV.det h4 k4
section
variable {E : Ev} {G H : Hp}
/-- one of the items of a list of own things -/
theorem RoL.split : ∀ {os : List O} {vs : List V} {A : List Addr} {j : Nat} {o : O}, RoL E G H os vs A → os[j]? = some o → ∃ v L A1 R, vs[j]? = some v ∧ A = L ++ A1 ++ R ∧ Ro E G H o v A1 ∧
    ∀ (H' : Hp) (o' : O) (A1' : List Addr), (∀ a ∈ L ++ R, ∀ u, H a = some u → H' a = some u) → Ro E G H' o' v A1' → RoL E G H' (os.set j o') vs (L ++ A1' ++ R)
  | [], _, _, _, _, _, e => by
    rw [List.getElem?_nil] at e
    cases e
  | x :: os, vs, A, 0, o, h, e => by
    cases e
    unfold RoL at h
    obtain ⟨v, r, A1, A2, rfl, rfl, h3, h4⟩ := h
    refine ⟨v, [], A1, A2, rfl, rfl, h3, fun H' o' A1' k ro => ?_⟩
    show RoL E G H' (o' :: os) (v :: r) (A1' ++ A2)
    unfold RoL
    exact ⟨v, r, A1', A2, rfl, rfl, ro, RoL.keep (Ex.refl G) h4 fun a ha => k a ha⟩
  | x :: os, vs, A, j + 1, o, h, e => by
    rw [List.getElem?_cons_succ] at e
    unfold RoL at h
    obtain ⟨v, r, A1, A2, rfl, rfl, h3, h4⟩ := h
    obtain ⟨w, L, B1, R, e1, rfl, ro, up⟩ := RoL.split (j := j) h4 e
    refine ⟨w, A1 ++ L, B1, R, e1, by simp only [List.append_assoc], ro, fun H' o' A1' k ro' => ?_⟩
    show RoL E G H' (x :: os.set j o') (v :: r) _
    unfold RoL
    refine ⟨v, r, A1, L ++ A1' ++ R, rfl, by simp only [List.append_assoc], Ro.keep (Ex.refl G) h3 fun a ha => k a ?_, up H' o' A1' (fun a ha => k a ?_) ro'⟩
    · exact List.mem_append_left _ (List.mem_append_left _ ha)
    · rcases List.mem_append.mp ha with z | z
      · exact List.mem_append_left _ (List.mem_append_right _ z)
      · exact List.mem_append_right _ z
/-- what stands at the end of a way, and all else -/
theorem Ro.focus : ∀ {p : List Stp} {o o1 : O} {v : V} {A : List Addr}, Ro E G H o v A → oget o p = some o1 → ∃ w L A1 R, A = L ++ A1 ++ R ∧ Ro E G H o1 w A1 ∧ (∀ H' : Hp, (∀ a ∈ A, ∀ u, H a = some u → H' a = some u) → PathV H' v p w) ∧
    ∀ (H' : Hp) (o' : O) (A1' : List Addr), (∀ a ∈ L ++ R, ∀ u, H a = some u → H' a = some u) → Ro E G H' o' w A1' → Ro E G H' (oput o p o') v (L ++ A1' ++ R)
  | [], o, o1, v, A, h, e => by
    cases e
    refine ⟨v, [], A, [], by simp, h, fun _ _ => rfl, fun H' o' A1' _ ro => ?_⟩
    show Ro E G H' o' v ([] ++ A1' ++ [])
    rw [List.append_nil]
    exact ro
  | s :: p, o, o1, v, A, h, e => by
    have e0 : (match kids o s with
      | some (os, j) => match os[j]? with
        | some o' => oget o' p
        | none => none
      | none => none) = some o1 := e
    cases hk : kids o s with
    | none => rw [hk] at e0; cases e0
    | some q =>
      obtain ⟨os, j⟩ := q
      rw [hk] at e0
      cases hj : os[j]? with
      | none =>
        have e1 : (match os[j]? with | some o' => oget o' p | none => none) = some o1 := e0
        rw [hj] at e1
        cases e1
      | some oj =>
        have e1 : (match os[j]? with | some o' => oget o' p | none => none) = some o1 := e0
        rw [hj] at e1
        have eput : ∀ n, oput o (s :: p) n = okids o (os.set j (oput oj p n)) := fun n => by
          simp only [oput, hk, hj]
        cases o with
        | lst os' =>
          cases s with
          | ix j' =>
            cases hk
            unfold Ro at h
            obtain ⟨a, xs, B, rfl, rfl, h3, h4⟩ := h
            obtain ⟨x, L, A1, R, ex, rfl, ro, up⟩ := RoL.split h4 hj
            obtain ⟨w, L2, B1, R2, rfl, ro2, pv, up2⟩ := Ro.focus ro e1
            refine ⟨w, a :: (L ++ L2), B1, R2 ++ R, by simp, ro2, fun H' k => ⟨a, xs, x, rfl, .inl (k a List.mem_cons_self _ h3), ex, pv H' fun b hb => k b ?_⟩, fun H' o' A1' k ro' => ?_⟩
            · simp only [List.mem_cons, List.mem_append] at hb ⊢
              exact .inr (.inl (.inr hb))
            · rw [eput]
              unfold okids Ro
              refine ⟨a, xs, L ++ (L2 ++ A1' ++ R2) ++ R, rfl, by simp, k a (by simp) _ h3, up H' _ _ (fun b hb => k b ?_) (up2 H' o' A1' (fun b hb => k b ?_) ro')⟩
              · simp only [List.mem_cons, List.mem_append] at hb ⊢
                rcases hb with z | z
                · exact .inl (.inr (.inl z))
                · exact .inr (.inr z)
              · simp only [List.mem_cons, List.mem_append] at hb ⊢
                rcases hb with z | z
                · exact .inl (.inr (.inr z))
                · exact .inr (.inl z)
          | «at» f => cases hk
        | tup os' =>
          cases s with
          | ix j' =>
            cases hk
            unfold Ro at h
            obtain ⟨a, xs, B, rfl, rfl, h3, h4⟩ := h
            obtain ⟨x, L, A1, R, ex, rfl, ro, up⟩ := RoL.split h4 hj
            obtain ⟨w, L2, B1, R2, rfl, ro2, pv, up2⟩ := Ro.focus ro e1
            refine ⟨w, a :: (L ++ L2), B1, R2 ++ R, by simp, ro2, fun H' k => ⟨a, xs, x, rfl, .inr (k a List.mem_cons_self _ h3), ex, pv H' fun b hb => k b ?_⟩, fun H' o' A1' k ro' => ?_⟩
            · simp only [List.mem_cons, List.mem_append] at hb ⊢
              exact .inr (.inl (.inr hb))
            · rw [eput]
              unfold okids Ro
              refine ⟨a, xs, L ++ (L2 ++ A1' ++ R2) ++ R, rfl, by simp, k a (by simp) _ h3, up H' _ _ (fun b hb => k b ?_) (up2 H' o' A1' (fun b hb => k b ?_) ro')⟩
              · simp only [List.mem_cons, List.mem_append] at hb ⊢
                rcases hb with z | z
                · exact .inl (.inr (.inl z))
                · exact .inr (.inr z)
              · simp only [List.mem_cons, List.mem_append] at hb ⊢
                rcases hb with z | z
                · exact .inl (.inr (.inr z))
                · exact .inr (.inl z)
          | «at» f => cases hk
        | obj C fs os' =>
          cases s with
          | ix j' => cases hk
          | «at» f =>
            cases hk
            unfold Ro at h
            obtain ⟨a, dx, fv, B, rfl, rfl, h3, hfs, h4⟩ := h
            obtain ⟨x, L, A1, R, ex, rfl, ro, up⟩ := RoL.split h4 hj
            obtain ⟨w, L2, B1, R2, rfl, ro2, pv, up2⟩ := Ro.focus ro e1
            refine ⟨w, a :: (L ++ L2), B1, R2 ++ R, by simp, ro2, fun H' k => ⟨a, _, dx, fv, x, rfl, k a List.mem_cons_self _ h3, by rw [hfs]; exact ex, pv H' fun b hb => k b ?_⟩, fun H' o' A1' k ro' => ?_⟩
            · simp only [List.mem_cons, List.mem_append] at hb ⊢
              exact .inr (.inl (.inr hb))
            · rw [eput]
              unfold okids Ro
              refine ⟨a, dx, fv, L ++ (L2 ++ A1' ++ R2) ++ R, rfl, by simp, k a (by simp) _ h3, hfs, up H' _ _ (fun b hb => k b ?_) (up2 H' o' A1' (fun b hb => k b ?_) ro')⟩
              · simp only [List.mem_cons, List.mem_append] at hb ⊢
                rcases hb with z | z
                · exact .inl (.inr (.inl z))
                · exact .inr (.inr z)
              · simp only [List.mem_cons, List.mem_append] at hb ⊢
                rcases hb with z | z
                · exact .inl (.inr (.inr z))
                · exact .inr (.inl z)
        | _ => cases hk
end
section
variable {c : Ctx} {G : Hp} {S : List Sl} {As : Nat → List Addr} {τ : List V} {σ : L2.St} {H : Hp}
theorem nodup_mid {L B B' R : List Addr} (h : (L ++ B ++ R).Nodup) (n : B'.Nodup) (d : ∀ a ∈ B', a ∈ B ∨ (a ∉ L ∧ a ∉ R)) : (L ++ B' ++ R).Nodup := by
  rw [List.nodup_append, List.nodup_append] at h ⊢
  obtain ⟨⟨h1, h2, h3⟩, h4, h5⟩ := h
  refine ⟨⟨h1, n, fun a ha b hb e => ?_⟩, h4, fun a ha b hb e => ?_⟩
  · subst e
    rcases d a hb with z | z
    · exact h3 a ha a z rfl
    · exact z.1 ha
  · subst e
    rcases List.mem_append.mp ha with z | z
    · exact h5 a (List.mem_append_left _ z) a hb rfl
    · rcases d a z with q | q
      · exact h5 a (List.mem_append_right _ q) a hb rfl
      · exact q.2 hb
/-- the node at l of slot i's thing is written; its nodes are now A', of the old ones and of the new ones at N -/
theorem Real.mutAt {i : Nat} {l : Addr} {u : HO} {o' : O} {A' N : List Addr} {v : V} (R : Real c G S As τ σ H) (hi : i < σ.length) (hv : σ[i]? = some (some v)) (hS : ∃ o, S[i]? = some (.ow o)) (hl : l ∈ As i) (nw : New c G As N) (nd : A'.Nodup) (sub : ∀ a ∈ A', a ∈ As i ∨ a ∈ N)
    (ro : Ro c.E G (upd H l u) o' v A') : Real c G (S.set i (.ow o')) (upA As i A') τ σ (upd H l u) := by
  have hlt : i < S.length := by rw [R.len]; omega
  have lG : G l = none := R.nf i l hl
  refine ⟨R.exG.mut lG, fun j s e => ?_, by rw [List.length_set]; exact R.len, fun j hj => ?_, fun j => ?_, fun j k a hj hk => ?_, fun j a hj => ?_, R.g0, R.gn, fun a w e hn => ?_, fun a h => ?_, fun j a hj => ?_, fun j hj => ?_⟩
  · by_cases hj : j = i
    · subst hj
      rw [List.getElem?_set_self hlt] at e
      cases e
      rw [upA_same, env_lt hi]
      exact ⟨v, hv, ro⟩
    · rw [List.getElem?_set_ne (Ne.symm hj)] at e
      rw [upA_ne hj]
      exact (R.sl j s e).keep (Ex.refl G) fun a ha w q => by
        rw [upd_ne fun z => hj (R.dj j i a ha (by rw [z]; exact hl))]
        exact q
  · rw [List.length_set] at hj
    rw [upA_ne (by omega)]
    exact R.emp j hj
  · by_cases hj : j = i
    · rw [hj, upA_same]; exact nd
    · rw [upA_ne hj]; exact R.nd j
  · have key : ∀ {j : Nat} {a : Addr}, a ∈ A' → j ≠ i → a ∉ As j := fun {j a} ha hne z => by
      rcases sub a ha with q | q
      · exact hne (R.dj j i a z q)
      · exact nw.out a q j z
    by_cases h1 : j = i
    · by_cases h2 : k = i
      · rw [h1, h2]
      · rw [h1, upA_same] at hj
        rw [upA_ne h2] at hk
        exact absurd hk (key hj h2)
    · by_cases h2 : k = i
      · rw [h2, upA_same] at hk
        rw [upA_ne h1] at hj
        exact absurd hj (key hk h1)
      · rw [upA_ne h1] at hj
        rw [upA_ne h2] at hk
        exact R.dj j k a hj hk
  · by_cases h1 : j = i
    · rw [h1, upA_same] at hj
      rcases sub a hj with q | q
      · exact R.nf i a q
      · exact nw.g a q
    · rw [upA_ne h1] at hj; exact R.nf j a hj
  · have : a ≠ l := fun z => by
      subst z
      rcases R.fn i a hl with q | q
      · rw [q] at e; cases e
      · exact hn i q.1 q.2
    rw [upd_ne this]
    exact R.fr0 a w e hn
  · by_cases e : a = l
    · rw [e, upd_same]; exact fun z => nomatch z
    · rw [upd_ne e]; exact R.stay a h
  · by_cases h1 : j = i
    · rw [h1, upA_same] at hj
      rcases sub a hj with q | q
      · rw [h1]; exact R.fn i a q
      · exact .inl (nw.h0 a q)
    · rw [upA_ne h1] at hj; exact R.fn j a hj
  · obtain ⟨ob, w, h1, h2, h3⟩ := R.io j hj
    by_cases e : j = i
    · subst e
      exact ⟨o', w, List.getElem?_set_self hlt, h2, h3⟩
    · exact ⟨ob, w, by rw [List.getElem?_set_ne (Ne.symm e)]; exact h1, h2, h3⟩
theorem Post.mutAt {i : Nat} {l : Addr} {u : HO} {o' : O} {A' : List Addr} (hl : l ∈ As i) (sub : ∀ a ∈ A', a ∈ As i) : Post [i] S (S.set i (.ow o')) As (upA As i A') G G H (upd H l u) :=
  ⟨Ex.refl G, fun j hj => by
    have hne : j ≠ i := fun z => hj (by rw [z]; exact List.mem_cons_self)
    exact ⟨List.getElem?_set_ne (Ne.symm hne), upA_ne hne⟩, fun a w e hn => by
    rw [upd_ne fun z => hn i List.mem_cons_self (by rw [z]; exact hl)]
    exact e, fun j a h => by
    by_cases e : j = i
    · rw [e, upA_same] at h; rw [e]; exact .inl (sub a h)
    · rw [upA_ne e] at h; exact .inl h, fun a h => by
    by_cases e : a = l
    · rw [e, upd_same]; exact fun z => nomatch z
    · rw [upd_ne e]; exact h, List.length_set, fun _ _ _ => rfl⟩
end
/-! ### ways, evaluated -/
def sget (S : List Sl) (i : Nat) (p : List Stp) : Option O := match S[i]? with
  | some (.ow o) => oget o p
  | _ => none
def sput (S : List Sl) (i : Nat) (p : List Stp) (n : O) : List Sl := match S[i]? with
  | some (.ow o) => S.set i (.ow (oput o p n))
  | _ => S
def tP (c : Ctx) (X : XK) (mods : List Nat) (i : Nat) (m : M (List Stp)) : TE := fun σ H Q => ∃ G S As τ, Real c G S As τ σ H ∧ fin c X (m S) fun p S' =>
  ∀ v G' As' H', Real c G' S' As' τ σ H' → Post mods S S' As As' G G' H H' → i < σ.length → (∃ v0, σ[i]? = some (some v0) ∧ PathV H' v0 p v) → (∃ o, sget S' i p = some o) → Q v H'
def pVar (i : Nat) : M (List Stp) := fun S => match S[i]? with
  | some (.ow _) => .ok [] S
  | _ => .bad
def pIx (i : Nat) (mp : M (List Stp)) (mi : M D) : M (List Stp) := fun S => (mp S).bd fun p S1 => (mi S1).bd fun d S2 => match sget S2 i p, d with
  | some (.lst os), .int k => match ixN os.length k with
    | some j => .ok (p ++ [.ix j]) S2
    | none => .bad
  | some (.tup os), .int k => match ixN os.length k with
    | some j => .ok (p ++ [.ix j]) S2
    | none => .bad
  | _, _ => .bad
theorem PathV.snoc {H : Hp} {s : Stp} : ∀ {p : List Stp} {v w x : V}, PathV H v p w → PathV H w [s] x → PathV H v (p ++ [s]) x
  | [], v, w, x, h, k => by
    have h1 : w = v := h
    rw [← h1]
    exact k
  | .ix j :: p, v, w, x, h, k => by
    obtain ⟨a, xs, y, e1, h2, h3, h4⟩ := h
    exact ⟨a, xs, y, e1, h2, h3, PathV.snoc h4 k⟩
  | .at f :: p, v, w, x, h, k => by
    obtain ⟨a, C, dx, fs, y, e1, h2, h3, h4⟩ := h
    exact ⟨a, C, dx, fs, y, e1, h2, h3, PathV.snoc h4 k⟩
theorem oget_snoc {s : Stp} : ∀ {p : List Stp} {o : O}, oget o (p ++ [s]) = (oget o p).bind fun o' => oget o' [s]
  | [], o => rfl
  | t :: p, o => by
    simp only [List.cons_append, oget]
    cases kids o t with
    | none => rfl
    | some q =>
      obtain ⟨os, j⟩ := q
      simp only
      cases os[j]? with
      | none => rfl
      | some o' => exact oget_snoc
theorem sget_some {S : List Sl} {i : Nat} {p : List Stp} {o : O} (h : sget S i p = some o) : ∃ o0, S[i]? = some (.ow o0) ∧ oget o0 p = some o := by
  unfold sget at h
  split at h
  · rename_i o0 e
    exact ⟨o0, e, h⟩
  · cases h
section
variable {X : Cx} {c : Ctx} {W : XK} {mods m1 m2 m3 : List Nat} {e a b : Expr} {pos : Pos} {mi : M D} {mo : M O} {mp : M (List Stp)} {i : Nat}
theorem zPv {x : Str} {p : Pos} (hN : X.N[i]? = some x := by rfl) (hv : Vis X.env.scope x := by first | exact Or.inl rfl | exact Or.inr (Or.inl rfl) | exact Or.inr (Or.inr rfl))
    (hd : (x == ("__debug__" : Str)) = false := by decide) (hcd : (x == ("__classdict__" : Str)) = false := by decide) : PE X (.Name x p) (tP c W [] i (pVar i)) :=
  PEl (pe_var (i := i) hN hv hd hcd) fun σ H Q hl ⟨G, S, As, τ, R, h⟩ => by
    have hi : i < σ.length := by rw [hl]; exact (List.getElem?_eq_some_iff.mp hN).1
    unfold pVar at h
    split at h
    · rename_i o e
      obtain ⟨v, h1, h2⟩ := ow_at R hi e
      exact ⟨v, h1, h v G As H R Post.refl hi ⟨v, h1, rfl⟩ ⟨o, by unfold sget; rw [e]; rfl⟩⟩
    · exact h.elim
/-- the thing at a way, later -/
theorem path_later {G1 G2 H1 H2 : Hp} {S1 S2 : List Sl} {As1 As2 : Nat → List Addr} {τ : List V} {σ : L2.St} {p : List Stp} {v v0 : V} {o : O} (R1 : Real c G1 S1 As1 τ σ H1) (P : Post m2 S1 S2 As1 As2 G1 G2 H1 H2) (hm : i ∉ m2) (hi : i < σ.length) (hv : σ[i]? = some (some v0)) (pv : PathV H1 v0 p v) (ho : sget S1 i p = some o) :
    PathV H2 v0 p v ∧ sget S2 i p = some o ∧ As2 i = As1 i := by
  obtain ⟨o0, e0, e1⟩ := sget_some ho
  obtain ⟨w, h1, h2⟩ := ow_at R1 hi e0
  rw [hv] at h1
  cases h1
  obtain ⟨w, L, A1, Rr, eA, ro, pw, up⟩ := Ro.focus h2 e1
  have e2 := PathV.det pv (pw H1 fun _ _ _ q => q)
  obtain ⟨q1, q2⟩ := P.same i hm
  refine ⟨?_, ?_, q2⟩
  · rw [e2]
    refine pw H2 fun a ha u hu => P.frm a u hu fun j hj z => ?_
    have := R1.dj j i a z ha
    subst this
    exact hm hj
  · unfold sget
    rw [q1, e0]
    exact e1
theorem zPi (hK : c.E.K = X.K) (ha : PE X a (tP c W m1 i mp)) (hb : PE X b (tE c W true m2 mi)) (hm : i ∉ m2 := by decide) (hs : PlainIx b := by exact fun _ _ => rfl) : PE X (.Subscript a b pos) (tP c W (m1 ++ m2) i (pIx i mp mi)) :=
  PEw (pe_ix (ix_list.or ix_tup) ha hb hs) fun σ H Q ⟨G, S, As, τ, R, q⟩ => by
    refine ⟨G, S, As, τ, R, fin_mono (fin_bd q) fun p S1 e1 k => ?_⟩
    intro v G1 As1 H1 R1 P1 hi ⟨v0, hv0, pv⟩ ⟨o1, ho1⟩
    refine ⟨G1, S1, As1, τ, R1, fin_mono (fin_bd k) fun d S2 e2 k2 => ?_⟩
    intro u G2 As2 H2 R2 P2 r2
    obtain ⟨pv2, ho2, eA⟩ := path_later R1 P2 hm hi hv0 pv ho1
    rw [ho2] at k2
    obtain ⟨o0, e0, e3⟩ := sget_some ho2
    obtain ⟨w0, h1, h2⟩ := ow_at R2 hi e0
    rw [hv0] at h1
    cases h1
    obtain ⟨w, L, A1, Rr, eA2, ro, pw, up⟩ := Ro.focus h2 e3
    have e4 := PathV.det pv2 (pw H2 fun _ _ _ q => q)
    subst e4
    cases o1 with
    | lst os =>
      cases d with
      | int n =>
        have k3 : fin c W (match ixN os.length n with | some j => Out.ok (p ++ [.ix j]) S2 | none => .bad) _ := k2
        cases hx : ixN os.length n with
        | none => rw [hx] at k3; exact k3.elim
        | some j =>
          rw [hx] at k3
          unfold Ro at ro
          obtain ⟨l, xs, B, rfl, _, h3, h4⟩ := ro
          have hlen := RoL.length h4
          have hj : j < os.length := (ixN_seq hx).2.1
          unfold Rs at r2
          obtain ⟨x, ex⟩ : ∃ x, xs[j]? = some x := ⟨xs[j], List.getElem?_eq_getElem (by omega)⟩
          refine .inl ⟨l, xs, n, x, rfl, r2, SqL.of h3, ?_, k3 _ G2 As2 H2 R2 (P1.trans P2) hi ⟨v0, hv0, PathV.snoc pv2 ⟨l, xs, x, rfl, .inl h3, ex, rfl⟩⟩ ⟨os[j], ?_⟩⟩
          · unfold atI
            rw [← hlen, hx]
            exact ex
          · unfold sget
            rw [e0]
            show oget o0 (p ++ [.ix j]) = _
            rw [oget_snoc, e3]
            show (match os[j]? with | some o' => oget o' [] | none => none) = _
            rw [List.getElem?_eq_getElem hj]
            rfl
      | _ => exact k2.elim
    | tup os =>
      cases d with
      | int n =>
        have k3 : fin c W (match ixN os.length n with | some j => Out.ok (p ++ [.ix j]) S2 | none => .bad) _ := k2
        cases hx : ixN os.length n with
        | none => rw [hx] at k3; exact k3.elim
        | some j =>
          rw [hx] at k3
          unfold Ro at ro
          obtain ⟨l, xs, B, rfl, _, h3, h4⟩ := ro
          have hlen := RoL.length h4
          have hj : j < os.length := (ixN_seq hx).2.1
          unfold Rs at r2
          obtain ⟨x, ex⟩ : ∃ x, xs[j]? = some x := ⟨xs[j], List.getElem?_eq_getElem (by omega)⟩
          refine .inr ⟨l, xs, n, x, rfl, r2, SqT.of h3, ?_, k3 _ G2 As2 H2 R2 (P1.trans P2) hi ⟨v0, hv0, PathV.snoc pv2 ⟨l, xs, x, rfl, .inr h3, ex, rfl⟩⟩ ⟨os[j], ?_⟩⟩
          · unfold atI
            rw [← hlen, hx]
            exact ex
          · unfold sget
            rw [e0]
            show oget o0 (p ++ [.ix j]) = _
            rw [oget_snoc, e3]
            show (match os[j]? with | some o' => oget o' [] | none => none) = _
            rw [List.getElem?_eq_getElem hj]
            rfl
      | _ => exact k2.elim
    | _ => exact k2.elim
end
end Z

/-! Z13: what a way leads to, read, moved, changed. -/
namespace Z
open PySem PySem.Spec PyProof.Rows L2
section
variable {c : Ctx} {G G2 : Hp} {S S2 : List Sl} {As As2 : Nat → List Addr} {τ : List V} {σ : L2.St} {H H2 : Hp} {i : Nat} {p : List Stp} {v v0 : V} {o : O} {m : List Nat} {A : List Addr}
theorem at_way (R : Real c G S As τ σ H) (hi : i < σ.length) (hv : σ[i]? = some (some v0)) (pv : PathV H v0 p v) (ho : sget S i p = some o) :
    ∃ o0 L A1 Rr, S[i]? = some (.ow o0) ∧ oget o0 p = some o ∧ As i = L ++ A1 ++ Rr ∧ Ro c.E G H o v A1 ∧ ∀ (H' : Hp) (o' : O) (A1' : List Addr), (∀ a ∈ L ++ Rr, ∀ u, H a = some u → H' a = some u) → Ro c.E G H' o' v A1' → Ro c.E G H' (oput o0 p o') v0 (L ++ A1' ++ Rr) := by
  obtain ⟨o0, e0, e1⟩ := sget_some ho
  obtain ⟨w0, h1, h2⟩ := ow_at R hi e0
  rw [hv] at h1
  cases h1
  obtain ⟨w, L, A1, Rr, eA, ro, pw, up⟩ := Ro.focus h2 e1
  have e2 := PathV.det pv (pw H fun _ _ _ q => q)
  subst e2
  exact ⟨o0, L, A1, Rr, e0, e1, eA, ro, up⟩
/-- new nodes stay new behind an expression -/
theorem New.later {m : List Nat} {S S' : List Sl} {As As' : Nat → List Addr} {G G' H H' : Hp} (N : New c G As A) (ht : ∀ a ∈ A, H a ≠ none) (P : Post m S S' As As' G G' H H') : New c G' As' A ∧ ∀ a ∈ A, ∀ u, H a = some u → H' a = some u := by
  refine ⟨⟨N.nd, N.h0, fun a ha => ?_, fun a ha j z => ?_⟩, fun a ha u hu => P.frm a u hu fun j _ => N.out a ha j⟩
  · rw [P.gn a (ht a ha) fun j _ => N.out a ha j]
    exact N.g a ha
  · rcases P.new j a z with q | ⟨k, _, q⟩ | q
    · exact N.out a ha j q
    · exact N.out a ha k q
    · exact ht a ha q
theorem Frs.post {m1 m2 : List Nat} {As : Nat → List Addr} {H : Hp} (F : Frs m1 As H A) : Frs (m1 ++ m2) As H A := F.mono fun j hj => List.mem_append_left _ hj
/-- the thing at a way is changed at its node l -/
theorem mut_end (R2 : Real c G2 S2 As2 τ σ H2) (P : Post m S S2 As As2 G G2 H H2) (hi : i < σ.length) (hv : σ[i]? = some (some v0)) (pv : PathV H2 v0 p v) (ho : sget S2 i p = some o) (N : New c G2 As2 A) (F : Frs m As H A) :
    ∃ A1, Ro c.E G2 H2 o v A1 ∧ A1.Nodup ∧ (∀ a ∈ A1, a ∉ A) ∧ ∀ l u o' A1', l ∈ A1 → Ro c.E G2 (upd H2 l u) o' v A1' → A1'.Nodup → (∀ a ∈ A1', a ∈ A1 ∨ a ∈ A) →
      ∃ As3, Real c G2 (sput S2 i p o') As3 τ σ (upd H2 l u) ∧ Post (m ++ [i]) S (sput S2 i p o') As As3 G G2 H (upd H2 l u) := by
  obtain ⟨o0, L, A1, Rr, e0, e1, eA, ro, up⟩ := at_way R2 hi hv pv ho
  have nd := R2.nd i
  rw [eA] at nd
  have nd1 : A1.Nodup := (List.nodup_append.mp (List.nodup_append.mp nd).1).2.1
  refine ⟨A1, ro, nd1, fun a ha z => N.out a z i (by rw [eA]; exact List.mem_append_left _ (List.mem_append_right _ ha)), fun l u o' A1' hl ro' nd' sub => ?_⟩
  have hlA : l ∈ As2 i := by rw [eA]; exact List.mem_append_left _ (List.mem_append_right _ hl)
  have es : sput S2 i p o' = S2.set i (.ow (oput o0 p o')) := by
    unfold sput
    rw [e0]
  rw [es]
  have hsub : ∀ a ∈ L ++ A1' ++ Rr, a ∈ As2 i ∨ a ∈ A := fun a ha => by
    rw [eA]
    rcases List.mem_append.mp ha with z | z
    · rcases List.mem_append.mp z with z | z
      · exact .inl (List.mem_append_left _ (List.mem_append_left _ z))
      · rcases sub a z with q | q
        · exact .inl (List.mem_append_left _ (List.mem_append_right _ q))
        · exact .inr q
    · exact .inl (List.mem_append_right _ z)
  have hout : ∀ a ∈ A, a ∉ L ∧ a ∉ Rr := fun a ha => by
    have h1 := N.out a ha i
    rw [eA] at h1
    exact ⟨fun z => h1 (List.mem_append_left _ (List.mem_append_left _ z)), fun z => h1 (List.mem_append_right _ z)⟩
  have hll : ∀ a ∈ L ++ Rr, a ≠ l := fun a ha z => by
    subst z
    rcases List.mem_append.mp ha with q | q
    · exact (List.nodup_append.mp (List.nodup_append.mp nd).1).2.2 a q a hl rfl
    · exact (List.nodup_append.mp nd).2.2 a (List.mem_append_right _ hl) a q rfl
  have ro2 := up (upd H2 l u) o' A1' (fun a ha w hw => by rw [upd_ne (hll a ha)]; exact hw) ro'
  refine ⟨upA As2 i (L ++ A1' ++ Rr), R2.mutAt hi hv ⟨o0, e0⟩ hlA N (nodup_mid nd nd' fun a ha => (sub a ha).imp id fun z => hout a z) hsub ro2, ?_⟩
  refine ⟨P.exG, fun j hj => ?_, fun a w e hn => ?_, fun j a h => ?_, fun a h => ?_, List.length_set.trans P.len, fun a e hn => P.gn a e fun j hj => hn j (List.mem_append_left _ hj)⟩
  · have hne : j ≠ i := fun z => hj (by rw [z]; exact List.mem_append_right _ List.mem_cons_self)
    have h1 := P.same j fun z => hj (List.mem_append_left _ z)
    exact ⟨(List.getElem?_set_ne (Ne.symm hne)).trans h1.1, (upA_ne hne).trans h1.2⟩
  · rw [upd_ne fun z => ?_]
    · exact P.frm a w e fun j hj => hn j (List.mem_append_left _ hj)
    · subst z
      rcases P.new i a hlA with q | ⟨k, hk, q⟩ | q
      · exact hn i (List.mem_append_right _ List.mem_cons_self) q
      · exact hn k (List.mem_append_left _ hk) q
      · rw [e] at q; cases q
  · by_cases e : j = i
    · rw [e, upA_same] at h
      rcases hsub a h with q | q
      · rcases P.new i a q with q | ⟨k, hk, q⟩ | q
        · rw [e]; exact .inl q
        · exact .inr (.inl ⟨k, List.mem_append_left _ hk, q⟩)
        · exact .inr (.inr q)
      · rcases F a q with q | ⟨k, hk, q⟩
        · exact .inr (.inr q)
        · exact .inr (.inl ⟨k, List.mem_append_left _ hk, q⟩)
    · rw [upA_ne e] at h
      rcases P.new j a h with q | ⟨k, hk, q⟩ | q
      · exact .inl q
      · exact .inr (.inl ⟨k, List.mem_append_left _ hk, q⟩)
      · exact .inr (.inr q)
  · by_cases e : a = l
    · rw [e, upd_same]; exact fun z => nomatch z
    · rw [upd_ne e]; exact P.stay a h
theorem mut_lst {os : List O} (R2 : Real c G2 S2 As2 τ σ H2) (P : Post m S S2 As As2 G G2 H H2) (hi : i < σ.length) (hv : σ[i]? = some (some v0)) (pv : PathV H2 v0 p v) (ho : sget S2 i p = some (.lst os)) (N : New c G2 As2 A) (F : Frs m As H A) :
    ∃ l xs B, v = .ref l ∧ H2 l = some (.lst xs) ∧ RoL c.E G2 H2 os xs B ∧ B.Nodup ∧ (∀ a ∈ B, a ∉ A) ∧ ∀ os' xs' B', RoL c.E G2 H2 os' xs' B' → B'.Nodup → (∀ a ∈ B', a ∈ B ∨ a ∈ A) →
      ∃ As3, Real c G2 (sput S2 i p (.lst os')) As3 τ σ (upd H2 l (.lst xs')) ∧ Post (m ++ [i]) S (sput S2 i p (.lst os')) As As3 G G2 H (upd H2 l (.lst xs')) := by
  obtain ⟨A1, ro, nd, dj, go⟩ := mut_end R2 P hi hv pv ho N F
  unfold Ro at ro
  obtain ⟨l, xs, B, rfl, rfl, h3, h4⟩ := ro
  have nd2 := List.nodup_cons.mp nd
  refine ⟨l, xs, B, rfl, h3, h4, nd2.2, fun a ha => dj a (List.mem_cons_of_mem _ ha), fun os' xs' B' r nd' sub => ?_⟩
  have hl : l ∉ B' := fun z => by
    rcases sub l z with q | q
    · exact nd2.1 q
    · exact dj l List.mem_cons_self q
  refine go l (.lst xs') (.lst os') (l :: B') List.mem_cons_self ?_ (List.nodup_cons.mpr ⟨hl, nd'⟩) fun a ha => ?_
  · unfold Ro
    exact ⟨l, xs', B', rfl, rfl, upd_same, RoL.keep (Ex.refl _) r fun a ha u hu => by rw [upd_ne (show a ≠ l from fun z => hl (z ▸ ha))]; exact hu⟩
  · rcases List.mem_cons.mp ha with z | z
    · rw [z]; exact .inl List.mem_cons_self
    · exact (sub a z).imp (fun q => List.mem_cons_of_mem _ q) id
end
section
variable {E : Ev} {G H : Hp}
theorem RoL.splitAt : ∀ {os ps : List O} {vs : List V} {B : List Addr}, RoL E G H (os ++ ps) vs B → ∃ ws us B1 B2, vs = ws ++ us ∧ B = B1 ++ B2 ∧ RoL E G H os ws B1 ∧ RoL E G H ps us B2
  | [], ps, vs, B, h => ⟨[], vs, [], B, rfl, rfl, by unfold RoL; exact ⟨rfl, rfl⟩, h⟩
  | o :: os, ps, vs, B, h => by
    have h' : RoL E G H (o :: (os ++ ps)) vs B := h
    unfold RoL at h'
    obtain ⟨v, r, A1, A2, rfl, rfl, h3, h4⟩ := h'
    obtain ⟨ws, us, B1, B2, rfl, rfl, h5, h6⟩ := RoL.splitAt h4
    refine ⟨v :: ws, us, A1 ++ B1, B2, rfl, by rw [List.append_assoc], ?_, h6⟩
    unfold RoL
    exact ⟨v, ws, A1, B1, rfl, rfl, h3, h5⟩
theorem RoL.consE {o : O} {os : List O} {vs : List V} {B : List Addr} (h : RoL E G H (o :: os) vs B) : ∃ v r A1 A2, vs = v :: r ∧ B = A1 ++ A2 ∧ Ro E G H o v A1 ∧ RoL E G H os r A2 := by
  unfold RoL at h
  exact h
theorem RoL.cons {o : O} {os : List O} {v : V} {vs : List V} {A B : List Addr} (h : Ro E G H o v A) (r : RoL E G H os vs B) : RoL E G H (o :: os) (v :: vs) (A ++ B) := by
  unfold RoL
  exact ⟨v, vs, A, B, rfl, rfl, h, r⟩
theorem RoL.nil : RoL E G H [] [] [] := by unfold RoL; exact ⟨rfl, rfl⟩
theorem RoL.rev : ∀ {os : List O} {vs : List V} {B : List Addr}, RoL E G H os vs B → ∃ B', RoL E G H os.reverse vs.reverse B' ∧ B'.Perm B
  | [], vs, B, h => by
    unfold RoL at h
    obtain ⟨rfl, rfl⟩ := h
    exact ⟨[], .nil, .refl _⟩
  | o :: os, vs, B, h => by
    obtain ⟨v, r, A1, A2, rfl, rfl, h3, h4⟩ := h.consE
    obtain ⟨B', h5, h6⟩ := RoL.rev h4
    refine ⟨B' ++ A1, ?_, ?_⟩
    · rw [List.reverse_cons, List.reverse_cons]
      exact RoL.append h5 (.one h3)
    · exact (List.perm_append_comm).trans (h6.append_left A1)
theorem RoL.setAt {A : List Addr} {o : O} {y : V} : ∀ {os : List O} {vs : List V} {B : List Addr} {j : Nat}, RoL E G H os vs B → B.Nodup → A.Nodup → (∀ a ∈ B, a ∉ A) → Ro E G H o y A → j < os.length → ∃ B', RoL E G H (os.set j o) (vs.set j y) B' ∧ B'.Nodup ∧ ∀ a ∈ B', a ∈ B ∨ a ∈ A
  | [], vs, B, j, h, _, _, _, _, hj => absurd hj (Nat.not_lt_zero j)
  | x :: os, vs, B, 0, h, nb, na, dj, ro, hj => by
    obtain ⟨v, r, A1, A2, rfl, rfl, h3, h4⟩ := h.consE
    refine ⟨A ++ A2, .cons ro h4, List.nodup_append.mpr ⟨na, (List.nodup_append.mp nb).2.1, fun a ha b hb e => dj b (List.mem_append_right _ hb) (e ▸ ha)⟩, fun a ha => ?_⟩
    rcases List.mem_append.mp ha with z | z
    · exact .inr z
    · exact .inl (List.mem_append_right _ z)
  | x :: os, vs, B, j + 1, h, nb, na, dj, ro, hj => by
    obtain ⟨v, r, A1, A2, rfl, rfl, h3, h4⟩ := h.consE
    have nb2 := List.nodup_append.mp nb
    obtain ⟨B', h5, h6, h7⟩ := RoL.setAt (j := j) h4 nb2.2.1 na (fun a ha => dj a (List.mem_append_right _ ha)) ro (Nat.lt_of_succ_lt_succ hj)
    refine ⟨A1 ++ B', .cons h3 h5, List.nodup_append.mpr ⟨nb2.1, h6, fun a ha b hb e => ?_⟩, fun a ha => ?_⟩
    · subst e
      rcases h7 a hb with z | z
      · exact nb2.2.2 a ha a z rfl
      · exact dj a (List.mem_append_left _ ha) z
    · rcases List.mem_append.mp ha with z | z
      · exact .inl (List.mem_append_left _ z)
      · exact (h7 a z).imp (fun q => List.mem_append_right _ q) id
end
/-! ### read -/
def mRd (i : Nat) (mp : M (List Stp)) : M D := fun S => (mp S).bd fun p S1 => match sget S1 i p with
  | some (.sh d) => .ok d S1
  | _ => .bad
def mRv (i : Nat) (mp : M (List Stp)) : M D := fun S => (mp S).bd fun p S1 => match sget S1 i p with
  | some o => .ok (fr o) S1
  | none => .bad
def mUse (i : Nat) : M D := fun S => match S[i]? with
  | some (.pl d) => .ok d S
  | some (.ow o) => .ok (fr o) (S.set i (.pl (fr o)))
  | _ => .bad
def mLook (i : Nat) : M D := fun S => match S[i]? with
  | some (.pl d) => .ok d S
  | some (.ow o) => .ok (fr o) S
  | _ => .bad
def mMov (i : Nat) : M O := fun S => match S[i]? with
  | some (.pl d) => .ok (.sh d) S
  | some (.ow o) => .ok o (S.set i .no)
  | _ => .bad
section
variable {X : Cx} {c : Ctx} {W : XK} {mods m1 m2 m3 : List Nat} {e a b o : Expr} {pos apos cpos : Pos} {mi : M D} {mo : M O} {mp : M (List Stp)} {i : Nat}
theorem zRd (h : PE X e (tP c W mods i mp)) : PE X e (tE c W true mods (mRd i mp)) := PEw h fun σ H Q ⟨G, S, As, τ, R, q⟩ => by
  refine ⟨G, S, As, τ, R, fin_mono (fin_bd q) fun p S1 e1 k => ?_⟩
  intro v G1 As1 H1 R1 P1 hi ⟨v0, hv0, pv⟩ ⟨o1, ho1⟩
  obtain ⟨o0, L, A1, Rr, _, _, _, ro, _⟩ := at_way R1 hi hv0 pv ho1
  rw [ho1] at k
  cases o1 with
  | sh d =>
    unfold Ro at ro
    exact k v G1 As1 H1 R1 P1 ro.2
  | _ => exact k.elim
theorem zRv (h : PE X e (tP c W mods i mp)) : PE X e (tE c W false mods (mRv i mp)) := PEw h fun σ H Q ⟨G, S, As, τ, R, q⟩ => by
  refine ⟨G, S, As, τ, R, fin_mono (fin_bd q) fun p S1 e1 k => ?_⟩
  intro v G1 As1 H1 R1 P1 hi ⟨v0, hv0, pv⟩ ⟨o1, ho1⟩
  obtain ⟨o0, L, A1, Rr, _, _, _, ro, _⟩ := at_way R1 hi hv0 pv ho1
  rw [ho1] at k
  exact k v G1 As1 H1 R1 P1 (Ro.see R1.exG ro fun _ _ _ q => q)
theorem zLook {x : Str} {p : Pos} (hN : X.N[i]? = some x := by rfl) (hv : Vis X.env.scope x := by first | exact Or.inl rfl | exact Or.inr (Or.inl rfl) | exact Or.inr (Or.inr rfl))
    (hd : (x == ("__debug__" : Str)) = false := by decide) (hcd : (x == ("__classdict__" : Str)) = false := by decide) : PE X (.Name x p) (tE c W false [] (mLook i)) :=
  PEl (pe_var (i := i) hN hv hd hcd) fun σ H Q hl ⟨G, S, As, τ, R, h⟩ => by
    have hi : i < σ.length := by rw [hl]; exact (List.getElem?_eq_some_iff.mp hN).1
    unfold mLook at h
    split at h
    · rename_i d e
      obtain ⟨v, h1, h2⟩ := pl_at R hi e
      exact ⟨v, h1, h v G As H R Post.refl (Rs.mono R.exG h2)⟩
    · rename_i o e
      obtain ⟨v, h1, h2⟩ := ow_at R hi e
      exact ⟨v, h1, h v G As H R Post.refl (Ro.see R.exG h2 fun _ _ _ q => q)⟩
    · exact h.elim
theorem zUse {x : Str} {p : Pos} (hN : X.N[i]? = some x := by rfl) (hio : i ∉ c.io := by decide) (hv : Vis X.env.scope x := by first | exact Or.inl rfl | exact Or.inr (Or.inl rfl) | exact Or.inr (Or.inr rfl))
    (hd : (x == ("__debug__" : Str)) = false := by decide) (hcd : (x == ("__classdict__" : Str)) = false := by decide) : PE X (.Name x p) (tE c W true [i] (mUse i)) :=
  PEl (pe_var (i := i) hN hv hd hcd) fun σ H Q hl ⟨G, S, As, τ, R, h⟩ => by
    have hi : i < σ.length := by rw [hl]; exact (List.getElem?_eq_some_iff.mp hN).1
    unfold mUse at h
    split at h
    · rename_i d e
      obtain ⟨v, h1, h2⟩ := pl_at R hi e
      exact ⟨v, h1, h v G As H R Post.refl h2⟩
    · rename_i o e
      obtain ⟨v, h1, h2, R2, N⟩ := R.take hi hio e
      have R3 := R2.freeze N
      have R4 := R3.put (i := i) (s := .pl (fr o)) (v := v) (A := []) hi hio New.nil ⟨rfl, v, rfl, R2.frozen N h2⟩
      have es : (S.set i .no).set i (.pl (fr o)) = S.set i (.pl (fr o)) := List.set_set ..
      have eσ : σ.set i (some v) = σ := by
        apply List.ext_getElem?
        intro j
        by_cases hj : j = i
        · subst hj; rw [List.getElem?_set_self hi, h1]
        · rw [List.getElem?_set_ne (Ne.symm hj)]
      have eA : upA (upA As i []) i [] = upA As i [] := by
        funext j
        by_cases hj : j = i
        · rw [hj, upA_same, upA_same]
        · rw [upA_ne hj]
      rw [es, eσ, eA] at R4
      refine ⟨v, h1, h v _ _ H R4 ⟨frz_ex N.g, fun j hj => ?_, fun a u e _ => e, fun j a h => ?_, fun a h => h, List.length_set, fun a h hn => ?_⟩ (R2.frozen N h2)⟩
      · have hne : j ≠ i := fun z => hj (by rw [z]; exact List.mem_cons_self)
        exact ⟨List.getElem?_set_ne (Ne.symm hne), upA_ne hne⟩
      · by_cases hne : j = i
        · rw [hne, upA_same] at h; cases h
        · rw [upA_ne hne] at h; exact .inl h
      · exact frz_out (hn i List.mem_cons_self)
    · exact h.elim
theorem zMov {x : Str} {p : Pos} (hN : X.N[i]? = some x := by rfl) (hio : i ∉ c.io := by decide) (hv : Vis X.env.scope x := by first | exact Or.inl rfl | exact Or.inr (Or.inl rfl) | exact Or.inr (Or.inr rfl))
    (hd : (x == ("__debug__" : Str)) = false := by decide) (hcd : (x == ("__classdict__" : Str)) = false := by decide) : PE X (.Name x p) (tO c W [i] (mMov i)) :=
  PEl (pe_var (i := i) hN hv hd hcd) fun σ H Q hl ⟨G, S, As, τ, R, h⟩ => by
    have hi : i < σ.length := by rw [hl]; exact (List.getElem?_eq_some_iff.mp hN).1
    unfold mMov at h
    split at h
    · rename_i d e
      obtain ⟨v, h1, h2⟩ := pl_at R hi e
      exact ⟨v, h1, h v [] G As H R Post.refl (by unfold Ro; exact ⟨rfl, h2⟩) New.nil (fun _ z => nomatch z)⟩
    · rename_i o e
      obtain ⟨v, h1, h2, R2, N⟩ := R.take hi hio e
      refine ⟨v, h1, h v (As i) G _ H R2 ⟨Ex.refl G, fun j hj => ?_, fun a u e _ => e, fun j a h => ?_, fun a h => h, List.length_set, fun a h hn => rfl⟩ h2 N fun a ha => .inr ⟨i, List.mem_cons_self, ha⟩⟩
      · have hne : j ≠ i := fun z => hj (by rw [z]; exact List.mem_cons_self)
        exact ⟨List.getElem?_set_ne (Ne.symm hne), upA_ne hne⟩
      · by_cases hne : j = i
        · rw [hne, upA_same] at h; cases h
        · rw [upA_ne hne] at h; exact .inl h
    · exact h.elim
end
end Z

/-! Z14: displays of own things; a list's methods that change it; items set. -/
namespace Z
open PySem PySem.Spec PyProof.Rows L2
def tAO (c : Ctx) (X : XK) (mods : List Nat) (m : M (List O)) : TA := fun σ H Q => ∃ G S As τ, Real c G S As τ σ H ∧ fin c X (m S) fun os S' =>
  ∀ vs A G' As' H', Real c G' S' As' τ σ H' → Post mods S S' As As' G G' H H' → RoL c.E G' H' os vs A → New c G' As' A → Frs mods As H A → Q vs H'
def dLstO (os : List O) : Option O := match decide (os.length ≤ sizeLine) with
  | true => some (.lst os)
  | false => none
def dTupO (os : List O) : Option O := match decide (os.length ≤ sizeLine) with
  | true => some (.tup os)
  | false => none
theorem New.cat {c : Ctx} {G : Hp} {As : Nat → List Addr} {A B : List Addr} (a : New c G As A) (b : New c G As B) (d : ∀ x ∈ A, x ∉ B) : New c G As (A ++ B) :=
  ⟨List.nodup_append.mpr ⟨a.nd, b.nd, fun x hx y hy e => d x hx (e ▸ hy)⟩, fun x h => (List.mem_append.mp h).elim (a.h0 x) (b.h0 x), fun x h => (List.mem_append.mp h).elim (a.g x) (b.g x), fun x h => (List.mem_append.mp h).elim (a.out x) (b.out x)⟩
/-- a new node and its items -/
theorem New.top {c : Ctx} {G : Hp} {S : List Sl} {As : Nat → List Addr} {τ : List V} {σ : L2.St} {H : Hp} {A : List Addr} {p : Addr} (R : Real c G S As τ σ H) (N : New c G As A) (ht : ∀ a ∈ A, H a ≠ none) (hp : H p = none) : New c G As (p :: A) :=
  (R.new1 hp).cat N fun x hx z => by
    obtain rfl : x = p := by simpa using hx
    exact ht x z hp
section
variable {X : Cx} {c : Ctx} {W : XK} {mods m1 m2 m3 : List Nat} {e a b o : Expr} {es : List Expr} {pos apos cpos tpos : Pos} {mi me : M D} {mo : M O} {mp : M (List Stp)} {mr ma : M (List O)} {i : Nat}
theorem zAO0 : PA X [] (tAO c W [] (mC [])) := PAw pa_nil fun σ H Q ⟨G, S, As, τ, R, q⟩ => q [] [] G As H R Post.refl .nil New.nil fun _ z => nomatch z
theorem zAO1 (ha : PE X e (tO c W m1 mo)) (hr : PA X es (tAO c W m2 mr)) (hs : starEach (e :: es) X.env = (false, eval e X.env) :: starEach es X.env := by rfl) : PA X (e :: es) (tAO c W (m1 ++ m2) (mCons mo mr)) :=
  PAw (pa_cons ha hr hs) fun σ H Q ⟨G, S, As, τ, R, q⟩ => by
    refine ⟨G, S, As, τ, R, fin_mono (fin_bd q) fun d S1 e1 k => ?_⟩
    intro v A1 G1 As1 H1 R1 P1 r1 N1 F1
    refine ⟨G1, S1, As1, τ, R1, fin_mono (fin_bd k) fun ds S2 e2 k2 => ?_⟩
    intro vs A2 G2 As2 H2 R2 P2 r2 N2 F2
    obtain ⟨N1', k1⟩ := N1.later (Ro.there r1) P2
    refine k2 (v :: vs) (A1 ++ A2) G2 As2 H2 R2 (P1.trans P2) (.cons (Ro.keep P2.exG r1 k1) r2) (N1'.cat N2 fun x hx z => ?_) fun x hx => ?_
    · rcases F2 x z with q | ⟨j, _, q⟩
      · exact Ro.there r1 x hx q
      · exact N1.out x hx j q
    · rcases List.mem_append.mp hx with z | z
      · exact (F1.post (m2 := m2)) x z
      · exact (Frs.later P1 F2) x z
theorem zLstO (h : PA X es (tAO c W mods ma)) : PE X (.List es pos) (tO c W mods (m1x dLstO ma)) := PEw (pe_lst h) fun σ H Q ⟨G, S, As, τ, R, q⟩ => by
  refine ⟨G, S, As, τ, R, fin_mono (fin_bd q) fun os S1 e1 k => ?_⟩
  intro vs A G1 As1 H1 R1 P1 r1 N1 F1
  unfold dLstO at k
  cases hl : decide (os.length ≤ sizeLine) with
  | false =>
    rw [hl] at k
    exact k.elim
  | true =>
    rw [hl] at k
    refine ⟨by rw [← RoL.length r1]; exact of_decide_eq_true hl, fun p hp0 => ?_⟩
    have R2 := R1.keep (Keep.new (o := .lst vs) hp0)
    have P2 : Post mods S1 S1 As1 As1 G1 G1 H1 (upd H1 p (.lst vs)) := Post.of_keep (Ex.refl _) (Keep.new hp0) fun _ _ => rfl
    refine k (.ref p) (p :: A) G1 As1 _ R2 ((P1.trans P2).mono fun j hj => (List.mem_append.mp hj).elim id id) ?_ (New.top R1 N1 (RoL.there r1) hp0) fun x hx => ?_
    · unfold Ro
      exact ⟨p, vs, A, rfl, rfl, upd_same, RoL.keep (Ex.refl _) r1 fun a ha u hu => by rw [upd_ne (show a ≠ p from fun z => RoL.there r1 a ha (by rw [z]; exact hp0))]; exact hu⟩
    · rcases List.mem_cons.mp hx with z | z
      · exact Frs.one P1 hp0 x (by rw [z]; exact List.mem_cons_self)
      · exact F1 x z
theorem zTupO {x1 : Nat} (h : PA X es (tAO c W mods ma)) : PE X (.Tuple es x1 pos) (tO c W mods (m1x dTupO ma)) := PEw (pe_tup h) fun σ H Q ⟨G, S, As, τ, R, q⟩ => by
  refine ⟨G, S, As, τ, R, fin_mono (fin_bd q) fun os S1 e1 k => ?_⟩
  intro vs A G1 As1 H1 R1 P1 r1 N1 F1
  unfold dTupO at k
  cases hl : decide (os.length ≤ sizeLine) with
  | false =>
    rw [hl] at k
    exact k.elim
  | true =>
    rw [hl] at k
    refine ⟨by rw [← RoL.length r1]; exact of_decide_eq_true hl, fun p hp0 => ?_⟩
    have R2 := R1.keep (Keep.new (o := .tup vs) hp0)
    have P2 : Post mods S1 S1 As1 As1 G1 G1 H1 (upd H1 p (.tup vs)) := Post.of_keep (Ex.refl _) (Keep.new hp0) fun _ _ => rfl
    refine k (.ref p) (p :: A) G1 As1 _ R2 ((P1.trans P2).mono fun j hj => (List.mem_append.mp hj).elim id id) ?_ (New.top R1 N1 (RoL.there r1) hp0) fun x hx => ?_
    · unfold Ro
      exact ⟨p, vs, A, rfl, rfl, upd_same, RoL.keep (Ex.refl _) r1 fun a ha u hu => by rw [upd_ne (show a ≠ p from fun z => RoL.there r1 a ha (by rw [z]; exact hp0))]; exact hu⟩
    · rcases List.mem_cons.mp hx with z | z
      · exact Frs.one P1 hp0 x (by rw [z]; exact List.mem_cons_self)
      · exact F1 x z

/-! ### methods that change a list -/
abbrev MutF := List O → List O → Option (D × List O)
def AnsMut (c : Ctx) (r : V → List V → Hp → VK → Prop) (f : MutF) : Prop := ∀ (G H : Hp) (os args os' : List O) (d : D) (l : Addr) (xs vs : List V) (B A : List Addr) (Q : VK), H l = some (.lst xs) → RoL c.E G H os xs B → B.Nodup → RoL c.E G H args vs A → A.Nodup → (∀ a ∈ B, a ∉ A) →
  f os args = some (d, os') → (∀ v xs' B', Rs c.E G d v → RoL c.E G H os' xs' B' → B'.Nodup → (∀ a ∈ B', a ∈ B ∨ a ∈ A) → Q v (upd H l (.lst xs'))) → r (.ref l) vs H Q
def mutL (f : MutF) (i : Nat) (p : List Stp) (os : List O) (S : List Sl) : Out D := match sget S i p with
  | some (.lst xs) => match f xs os with
    | some (d, xs') => .ok d (sput S i p (.lst xs'))
    | none => .bad
  | _ => .bad
def isLstO : Option O → Bool
  | some (.lst _) => true
  | _ => false
def mMut (f : MutF) (i : Nat) (mp : M (List Stp)) (ma : M (List O)) : M D := fun S => (mp S).bd fun p S1 => match isLstO (sget S1 i p) with
  | true => (ma S1).bd fun os S2 => mutL f i p os S2
  | false => .bad
theorem lst_here {G H : Hp} {S : List Sl} {As : Nat → List Addr} {τ : List V} {σ : L2.St} {p : List Stp} {v v0 : V} {o1 : O} (R1 : Real c G S As τ σ H) (hi : i < σ.length) (hv0 : σ[i]? = some (some v0)) (pv : PathV H v0 p v) (ho1 : sget S i p = some o1) (hl : isLstO (sget S i p) = true) (K : PySem.W.Frag) : tyV K "list" v H := by
  obtain ⟨o0, L, A1, Rr, _, _, _, ro, _⟩ := at_way R1 hi hv0 pv ho1
  rw [ho1] at hl
  cases o1 with
  | lst xs0 =>
    unfold Ro at ro
    obtain ⟨l, xs, B, rfl, rfl, h3, h4⟩ := ro
    exact .inl ⟨rfl, xs, SqL.of h3⟩
  | _ => cases hl
theorem w_mut0 {r : V → List V → Hp → VK → Prop} {f : MutF} (hr : AnsMut c r f) {G G1 G2 H H1 H2 : Hp} {S S1 S2 : List Sl} {As As1 As2 : Nat → List Addr} {τ : List V} {σ : L2.St} {p : List Stp} {v v0 : V} {o1 : O} {os : List O} {vs : List V} {A : List Addr} {Q : VK}
    (R1 : Real c G1 S1 As1 τ σ H1) (P1 : Post m1 S S1 As As1 G G1 H H1) (hi : i < σ.length) (hv0 : σ[i]? = some (some v0)) (pv : PathV H1 v0 p v) (ho1 : sget S1 i p = some o1) (hm : i ∉ m2)
    (R2 : Real c G2 S2 As2 τ σ H2) (P2 : Post m2 S1 S2 As1 As2 G1 G2 H1 H2) (r2 : RoL c.E G2 H2 os vs A) (N2 : New c G2 As2 A) (F2 : Frs m2 As1 H1 A)
    (k : fin c W (mutL f i p os S2) fun d S3 => ∀ v G3 As3 H3, Real c G3 S3 As3 τ σ H3 → Post ((m1 ++ m2) ++ [i]) S S3 As As3 G G3 H H3 → Rs c.E (hp true G3 H3) d v → Q v H3) : r v vs H2 Q := by
  obtain ⟨pv2, ho2, eA⟩ := path_later R1 P2 hm hi hv0 pv ho1
  unfold mutL at k
  rw [ho2] at k
  cases o1 with
  | lst xs0 =>
    obtain ⟨l, xs, B, rfl, hH, rB, nB, dB, go⟩ := mut_lst R2 (P1.trans P2) hi hv0 pv2 ho2 N2 (Frs.later P1 F2)
    have k3 : fin c W (match f xs0 os with | some (d, xs') => Out.ok d (sput S2 i p (.lst xs')) | none => .bad) _ := k
    cases hf : f xs0 os with
    | none => rw [hf] at k3; exact k3.elim
    | some q =>
      obtain ⟨d, xs'⟩ := q
      rw [hf] at k3
      refine hr G2 H2 xs0 os xs' d l xs vs B A Q hH rB nB r2 N2.nd dB hf fun v ys B' rd rB' nB' sub => ?_
      obtain ⟨As3, R3, P3⟩ := go xs' ys B' rB' nB' sub
      exact k3 v G2 As3 _ R3 P3 rd
  | _ => exact k.elim
theorem zMut {r : V → List V → Hp → VK → Prop} {f : MutF} {name : Str} {id : String} (slot : Slot "list" name id) (hty : typeOf (.builtin id) = pure (.type "method_descriptor")) (hM : MtR X id r) (hr : AnsMut c r f) (ho : PE X o (tP c W m1 i mp)) (ha : PA X (e :: es) (tAO c W m2 ma)) (hm : i ∉ m2 := by decide)
    (hbase : attributeBase o name X.env (eval o X.env) = eval o X.env := by rfl) (hfew : ((backTo cpos (starEach (e :: es) X.env)).all (fun x => !x.1) && (backToKw cpos (keywordEach [] X.env)).all (fun x => x.1.isSome) && decide ((e :: es).length + ([] : List Keyword).length + (if ([] : List Keyword).isEmpty then 0 else 1) < 30)) = true := by rfl)
    (hline : (apos.endLine == cpos.line) = true := by rfl) (hs : starEach (e :: es) X.env = (false, eval e X.env) :: starEach es X.env := by rfl) (hplain : (backTo cpos (starEach es X.env)).any (·.1) = false := by rfl) : PE X (.Call (.Attribute o name apos) (e :: es) [] cpos) (tE c W true ((m1 ++ m2) ++ [i]) (mMut f i mp ma)) :=
  PEw (pe_bm PySem.F.plainAttrs_list slot hty hM ho ha hbase hfew hline hs hplain) fun σ H Q ⟨G, S, As, τ, R, q⟩ => by
    refine ⟨G, S, As, τ, R, fin_mono (fin_bd q) fun p S1 e1 k => ?_⟩
    intro v G1 As1 H1 R1 P1 hi ⟨v0, hv0, pv⟩ ⟨o1, ho1⟩
    cases hl : isLstO (sget S1 i p) with
    | false =>
      rw [hl] at k
      exact k.elim
    | true =>
      rw [hl] at k
      refine ⟨lst_here R1 hi hv0 pv ho1 hl _, G1, S1, As1, τ, R1, fin_mono (fin_bd k) fun os S2 e2 k2 => ?_⟩
      intro vs A G2 As2 H2 R2 P2 r2 N2 F2
      exact w_mut0 hr R1 P1 hi hv0 pv ho1 hm R2 P2 r2 N2 F2 k2
theorem zMut0 {r : V → List V → Hp → VK → Prop} {f : MutF} {name : Str} {id : String} (slot : Slot "list" name id) (hty : typeOf (.builtin id) = pure (.type "method_descriptor")) (hM : MtR X id r) (hr : AnsMut c r f) (ho : PE X o (tP c W m1 i mp))
    (hbase : attributeBase o name X.env (eval o X.env) = eval o X.env := by rfl) (hline : (apos.endLine == cpos.line) = true := by rfl) : PE X (.Call (.Attribute o name apos) [] [] cpos) (tE c W true ((m1 ++ []) ++ [i]) (mMut f i mp (mC []))) :=
  PEw (pe_bm0 PySem.F.plainAttrs_list slot hty hM ho hbase hline) fun σ H Q ⟨G, S, As, τ, R, q⟩ => by
    refine ⟨G, S, As, τ, R, fin_mono (fin_bd q) fun p S1 e1 k => ?_⟩
    intro v G1 As1 H1 R1 P1 hi ⟨v0, hv0, pv⟩ ⟨o1, ho1⟩
    cases hl : isLstO (sget S1 i p) with
    | false =>
      rw [hl] at k
      exact k.elim
    | true =>
      rw [hl] at k
      refine ⟨lst_here R1 hi hv0 pv ho1 hl _, ?_⟩
      exact w_mut0 (m2 := []) hr R1 P1 hi hv0 pv ho1 (fun z => nomatch z) R1 Post.refl .nil New.nil (fun _ z => nomatch z) k
end
/-! the methods -/
def fApp : MutF := fun os args => match args with
  | [o] => match decide (os.length < sizeLine) with
    | true => some (.non, os ++ [o])
    | false => none
  | _ => none
section
variable {c : Ctx}
theorem ans_app : AnsMut c rAppend fApp := fun G H os args os' d l xs vs B A Q hH rB nB rA nA dj hf k => by
  unfold fApp at hf
  split at hf
  · rename_i o
    cases hl : decide (os.length < sizeLine) with
    | false => rw [hl] at hf; cases hf
    | true =>
      rw [hl] at hf
      cases hf
      obtain ⟨v, r, A1, A2, rfl, rfl, h3, h4⟩ := rA.consE
      unfold RoL at h4
      obtain ⟨rfl, rfl⟩ := h4
      rw [List.append_nil] at nA dj k
      refine ⟨l, xs, v, rfl, rfl, hH, by rw [← RoL.length rB]; exact of_decide_eq_true hl, k .non _ (B ++ A1) (by unfold Rs; rfl) (RoL.append rB (.one h3)) (List.nodup_append.mpr ⟨nB, nA, fun x hx y hy e => dj x hx (e ▸ hy)⟩) fun a ha => List.mem_append.mp ha⟩
  · cases hf
def fIns : MutF := fun os args => match args with
  | [.sh (.int i), o] => match decide (os.length < sizeLine ∧ 0 ≤ i ∧ i < 2 ^ 63) with
    | true => some (.non, os.take i.toNat ++ o :: os.drop i.toNat)
    | false => none
  | _ => none
theorem ans_ins : AnsMut c (fun x vs H Q => ∃ (l : Addr) (xs : List V) (i : Int) (y : V), x = .ref l ∧ vs = [.int i, y] ∧ H l = some (.lst xs) ∧ xs.length < sizeLine ∧ 0 ≤ i ∧ i < 2 ^ 63 ∧
    Q .non (upd H l (.lst (xs.take i.toNat ++ [y] ++ xs.drop i.toNat)))) fIns := fun G H os args os' d l xs vs B A Q hH rB nB rA nA dj hf k => by
  unfold fIns at hf
  split at hf
  · rename_i i o
    cases hl : decide (os.length < sizeLine ∧ 0 ≤ i ∧ i < 2 ^ 63) with
    | false => rw [hl] at hf; cases hf
    | true =>
      rw [hl] at hf
      cases hf
      obtain ⟨h0, h1, h2⟩ := of_decide_eq_true hl
      obtain ⟨v, r, A1, A2, rfl, rfl, h3, h4⟩ := rA.consE
      obtain ⟨v', r', A1', A2', rfl, rfl, h3', h4'⟩ := h4.consE
      unfold RoL at h4'
      obtain ⟨rfl, rfl⟩ := h4'
      unfold Ro at h3
      obtain ⟨rfl, h3⟩ := h3
      unfold Rs at h3
      subst h3
      rw [List.append_nil, List.nil_append] at nA dj k
      have rB' : RoL c.E G H (os.take i.toNat ++ os.drop i.toNat) xs B := by rw [List.take_append_drop]; exact rB
      obtain ⟨ws, us, B1, B2, rfl, rfl, r1, r2⟩ := rB'.splitAt
      have hlen := RoL.length r1
      have e1 : (ws ++ us).take i.toNat = ws ∧ (ws ++ us).drop i.toNat = us := by
        have hall := RoL.length r2
        rw [List.length_take] at hlen
        rw [List.length_drop] at hall
        by_cases hi : i.toNat ≤ os.length
        · have : i.toNat = ws.length := by omega
          rw [this]
          exact ⟨List.take_left .., List.drop_left ..⟩
        · have h9 : us = [] := List.eq_nil_of_length_eq_zero (by omega)
          subst h9
          rw [List.append_nil]
          exact ⟨List.take_of_length_le (by omega), List.drop_of_length_le (by omega)⟩
      refine ⟨l, ws ++ us, i, v', rfl, rfl, hH, by rw [← RoL.length rB]; exact h0, h1, h2, ?_⟩
      rw [e1.1, e1.2]
      obtain ⟨n1, n2, n3⟩ := List.nodup_append.mp nB
      refine k .non _ (B1 ++ (A1' ++ B2)) (by unfold Rs; rfl) ?_ ?_ ?_
      · rw [List.append_assoc]
        exact RoL.append r1 (.cons h3' r2)
      · refine List.nodup_append.mpr ⟨n1, List.nodup_append.mpr ⟨nA, n2, fun x hx y hy e => dj y (List.mem_append_right _ hy) (e ▸ hx)⟩, fun x hx y hy e => ?_⟩
        rcases List.mem_append.mp hy with z | z
        · exact dj x (List.mem_append_left _ hx) (e ▸ z)
        · exact n3 x hx y z e
      · intro a ha
        rcases List.mem_append.mp ha with z | z
        · exact .inl (List.mem_append_left _ z)
        · rcases List.mem_append.mp z with z | z
          · exact .inr z
          · exact .inl (List.mem_append_right _ z)
  · cases hf
def fRev : MutF := fun os args => match args with
  | [] => some (.non, os.reverse)
  | _ => none
theorem ans_rev : AnsMut c rReverse fRev := fun G H os args os' d l xs vs B A Q hH rB nB rA nA dj hf k => by
  unfold fRev at hf
  split at hf
  · cases hf
    unfold RoL at rA
    obtain ⟨rfl, rfl⟩ := rA
    obtain ⟨B', h1, h2⟩ := rB.rev
    exact ⟨l, xs, rfl, rfl, hH, k .non _ B' (by unfold Rs; rfl) h1 (h2.nodup_iff.mpr nB) fun a ha => .inl (h2.mem_iff.mp ha)⟩
  · cases hf
def fClr : MutF := fun os args => match args with
  | [] => some (.non, [])
  | _ => none
theorem ans_clr : AnsMut c rClear fClr := fun G H os args os' d l xs vs B A Q hH rB nB rA nA dj hf k => by
  unfold fClr at hf
  split at hf
  · cases hf
    unfold RoL at rA
    obtain ⟨rfl, rfl⟩ := rA
    exact ⟨l, xs, rfl, rfl, hH, k .non _ [] (by unfold Rs; rfl) .nil List.nodup_nil fun a ha => nomatch ha⟩
  · cases hf
/-- the last item, shared -/
def fPop : MutF := fun os args => match args with
  | [] => match os.getLast? with
    | some (.sh d) => some (d, os.dropLast)
    | _ => none
  | _ => none
theorem last_split {α : Type} {os : List α} {o : α} (h : os.getLast? = some o) : os = os.dropLast ++ [o] := by
  cases os with
  | nil => cases h
  | cons x xs =>
    have h2 : (x :: xs).getLast (List.cons_ne_nil x xs) = o := by
      rw [List.getLast?_eq_getLast (List.cons_ne_nil x xs)] at h
      exact Option.some.inj h
    rw [← h2]
    exact (List.dropLast_concat_getLast _).symm
theorem ans_pop : AnsMut c rPop fPop := fun G H os args os' d l xs vs B A Q hH rB nB rA nA dj hf k => by
  unfold fPop at hf
  split at hf
  · cases hl : os.getLast? with
    | none => rw [hl] at hf; cases hf
    | some o =>
      rw [hl] at hf
      cases o with
      | sh d' =>
        cases hf
        unfold RoL at rA
        obtain ⟨rfl, rfl⟩ := rA
        have e := last_split hl
        have rB' : RoL c.E G H (os.dropLast ++ [.sh d]) xs B := by rw [← e]; exact rB
        obtain ⟨ws, us, B1, B2, rfl, rfl, r1, r2⟩ := rB'.splitAt
        obtain ⟨v', r', A1', A2', rfl, rfl, h3', h4'⟩ := r2.consE
        unfold RoL at h4'
        obtain ⟨rfl, rfl⟩ := h4'
        unfold Ro at h3'
        obtain ⟨rfl, h3'⟩ := h3'
        refine ⟨l, ws ++ [v'], v', rfl, rfl, hH, by simp, ?_⟩
        rw [List.dropLast_concat]
        exact k v' ws B1 h3' r1 (List.nodup_append.mp nB).1 fun a ha => .inl (List.mem_append_left _ ha)
      | _ => cases hf
  · cases hf
def fPopAt : MutF := fun os args => match args with
  | [.sh (.int i)] => match decide (-(2 ^ 63) ≤ i ∧ i < 2 ^ 63), ixN os.length i with
    | true, some k => match os[k]? with
      | some (.sh d) => some (d, os.eraseIdx k)
      | _ => none
    | _, _ => none
  | _ => none
theorem ix_seq {n : Nat} {i : Int} {k : Nat} (h : ixN n i = some k) : seqIndex? i n = some k := (ixN_seq h).1
theorem ans_popAt : AnsMut c rPopAt fPopAt := fun G H os args os' d l xs vs B A Q hH rB nB rA nA dj hf k => by
  unfold fPopAt at hf
  split at hf
  · rename_i i
    split at hf
    · rename_i j hd hx
      split at hf
      · rename_i d' hj
        cases hf
        obtain ⟨h1, h2⟩ := of_decide_eq_true hd
        obtain ⟨v, r, A1, A2, rfl, rfl, h3, h4⟩ := rA.consE
        unfold RoL at h4
        obtain ⟨rfl, rfl⟩ := h4
        unfold Ro at h3
        obtain ⟨rfl, h3⟩ := h3
        unfold Rs at h3
        subst h3
        have hjl : j < os.length := (List.getElem?_eq_some_iff.mp hj).1
        have e : os = os.take j ++ (.sh d :: os.drop (j + 1)) := by
          have := List.take_append_drop j os
          rw [List.drop_eq_getElem_cons hjl, (List.getElem?_eq_some_iff.mp hj).2] at this
          exact this.symm
        have rB' : RoL c.E G H (os.take j ++ (.sh d :: os.drop (j + 1))) xs B := by rw [← e]; exact rB
        obtain ⟨ws, us, B1, B2, rfl, rfl, r1, r2⟩ := rB'.splitAt
        obtain ⟨v', r', A1', A2', rfl, rfl, h3', h4'⟩ := r2.consE
        unfold Ro at h3'
        obtain ⟨rfl, h3'⟩ := h3'
        have hw : ws.length = j := by
          rw [← RoL.length r1, List.length_take]
          omega
        refine ⟨l, ws ++ v' :: r', i, j, v', rfl, rfl, hH, h1, h2, ?_, ?_, ?_⟩
        · rw [← RoL.length rB]
          exact ix_seq hx
        · rw [← hw, List.getElem?_append_right (Nat.le_refl _), Nat.sub_self]
          rfl
        · have e3 : (ws ++ v' :: r').eraseIdx j = ws ++ r' := by
            rw [← hw, List.eraseIdx_append_of_length_le (Nat.le_refl _), Nat.sub_self]
            rfl
          have e4 : os.eraseIdx j = os.take j ++ os.drop (j + 1) := List.eraseIdx_eq_take_drop_succ os j
          rw [e3]
          refine k v' _ (B1 ++ A2') h3' (by rw [e4]; exact RoL.append r1 h4') ?_ fun a ha => .inl ?_
          · rw [List.nil_append] at nB
            exact nB
          · rw [List.nil_append]
            exact ha
      · cases hf
    · cases hf
  · cases hf
def intsO : List O → Option (List Int)
  | [] => some []
  | .sh (.int n) :: os => (intsO os).map (n :: ·)
  | _ :: _ => none
theorem intsO_eq : ∀ {os : List O} {ns : List Int}, intsO os = some ns → os = ns.map fun n => O.sh (.int n)
  | [], ns, h => by cases h; rfl
  | o :: os, ns, h => by
    unfold intsO at h
    split at h
    · rename_i e
      cases e
    · rename_i n os' e
      cases e
      cases hr : intsO os with
      | none => rw [hr] at h; cases h
      | some ms =>
        rw [hr] at h
        cases h
        rw [intsO_eq hr]
        rfl
    · cases h
theorem RoL.ints {E : Ev} {G H : Hp} : ∀ {ns : List Int} {vs : List V} {B : List Addr}, RoL E G H (ns.map fun n => O.sh (.int n)) vs B → vs = ns.map V.int ∧ B = []
  | [], vs, B, h => by
    have h' : RoL E G H [] vs B := h
    unfold RoL at h'
    exact h'
  | n :: ns, vs, B, h => by
    obtain ⟨v, r, A1, A2, rfl, rfl, h3, h4⟩ := RoL.consE (o := .sh (.int n)) (os := ns.map fun n => O.sh (.int n)) h
    unfold Ro at h3
    obtain ⟨rfl, h3⟩ := h3
    unfold Rs at h3
    obtain ⟨rfl, rfl⟩ := RoL.ints h4
    subst h3
    exact ⟨rfl, rfl⟩
theorem RoL.of_ints {E : Ev} {G H : Hp} : ∀ {ns : List Int}, RoL E G H (ns.map fun n => O.sh (.int n)) (ns.map V.int) []
  | [] => .nil
  | n :: ns => .cons (A := []) (by unfold Ro; exact ⟨rfl, by unfold Rs; rfl⟩) RoL.of_ints
def idxI (k : Int) : List Int → Option Nat
  | [] => none
  | n :: ns => if n = k then some 0 else (idxI k ns).map (· + 1)
theorem idxI_some {k : Int} : ∀ {ns : List Int} {j : Nat}, idxI k ns = some j → ns[j]? = some k ∧ ∀ m : Nat, m < j → ns[m]? ≠ some k
  | [], j, h => by cases h
  | n :: ns, j, h => by
    unfold idxI at h
    split at h
    · rename_i e
      cases h
      exact ⟨by rw [e]; rfl, fun m hm => absurd hm (Nat.not_lt_zero m)⟩
    · rename_i e
      cases hr : idxI k ns with
      | none => rw [hr] at h; cases h
      | some j' =>
        rw [hr] at h
        cases h
        obtain ⟨h1, h2⟩ := idxI_some hr
        refine ⟨h1, fun m hm => ?_⟩
        cases m with
        | zero => exact fun z => e (Option.some.inj z)
        | succ m => exact h2 m (Nat.lt_of_succ_lt_succ hm)
def fRem : MutF := fun os args => match args with
  | [.sh (.int k)] => match intsO os with
    | some ns => match idxI k ns with
      | some j => some (.non, (ns.eraseIdx j).map fun n => O.sh (.int n))
      | none => none
    | none => none
  | _ => none
theorem ans_rem : AnsMut c rRemI fRem := fun G H os args os' d l xs vs B A Q hH rB nB rA nA dj hf k => by
  unfold fRem at hf
  split at hf
  · rename_i i
    split at hf
    · rename_i ns hi
      split at hf
      · rename_i j hj
        cases hf
        obtain ⟨v, r, A1, A2, rfl, rfl, h3, h4⟩ := rA.consE
        unfold RoL at h4
        obtain ⟨rfl, rfl⟩ := h4
        unfold Ro at h3
        obtain ⟨rfl, h3⟩ := h3
        unfold Rs at h3
        subst h3
        rw [intsO_eq hi] at rB
        obtain ⟨rfl, rfl⟩ := RoL.ints rB
        obtain ⟨h1, h2⟩ := idxI_some hj
        exact ⟨l, ns, i, j, rfl, rfl, hH, h1, h2, k .non _ [] (by unfold Rs; rfl) RoL.of_ints List.nodup_nil fun a ha => nomatch ha⟩
      · cases hf
    · cases hf
  · cases hf
end
end Z

/-! Z15: names, items, attributes set. -/
namespace Z
open PySem PySem.Spec PyProof.Rows L2
def slOf : O → Sl
  | .sh d => .pl d
  | o => .ow o
theorem slOk_of {E : Ev} {G H : Hp} {o : O} {v : V} {A : List Addr} (h : Ro E G H o v A) : SlOk E G H (slOf o) (some (some v)) A := by
  cases o with
  | sh d =>
    unfold Ro at h
    exact ⟨h.1, v, rfl, h.2⟩
  | _ => exact ⟨v, rfl, h⟩
def sSto (m : M O) (i : Nat) : MS := fun S => (m S).sd fun o S1 => .next (S1.set i (slOf o))
def sPar (i j : Nat) (m : M (List O)) : MS := fun S => (m S).sd fun os S1 => match os with
  | [o1, o2] => .next ((S1.set i (slOf o1)).set j (slOf o2))
  | _ => .bad
/-- x op= e -/
def sAug (i : Nat) (f : D → D → Option D) (m : M D) : MS := fun S => match S[i]? with
  | some (.pl x) => (m S).sd fun y S1 => match f x y with
    | some z => .next (S1.set i (.pl z))
    | none => .bad
  | _ => .bad
def setL (i : Nat) (p : List Stp) (d : D) (o : O) (S : List Sl) : OutS := match sget S i p, d with
  | some (.lst os), .int k => match ixN os.length k with
    | some j => .next (sput S i p (.lst (os.set j o)))
    | none => .bad
  | _, _ => .bad
def sSetI (i : Nat) (mo : M O) (mp : M (List Stp)) (mi : M D) : MS := fun S => (mo S).sd fun o S1 => (mp S1).sd fun p S2 => (mi S2).sd fun d S3 => setL i p d o S3
def getL (i : Nat) (p : List Stp) (d : D) (S : List Sl) : Option D := match sget S i p, d with
  | some (.lst os), .int k => match ixN os.length k with
    | some j => match os[j]? with
      | some (.sh x) => some x
      | _ => none
    | none => none
  | _, _ => none
def sAugI (i : Nat) (f : D → D → Option D) (mp : M (List Stp)) (mi : M D) (me : M D) : MS := fun S => (mp S).sd fun p S1 => (mi S1).sd fun d S2 => match getL i p d S2 with
  | some x => (me S2).sd fun y S3 => match f x y with
    | some z => setL i p d (.sh z) S3
    | none => .bad
  | none => .bad
section
variable {X : Cx} {c : Ctx} {W : XK} {mods m1 m2 m3 : List Nat} {e a b o : Expr} {es : List Expr} {pos apos cpos tpos : Pos} {mi me : M D} {mo : M O} {mp : M (List Stp)} {mr ma : M (List O)} {i : Nat}
theorem zSto {i : Nat} {x : Str} {p : Pos} (hN : X.N.Nodup) (hi : X.N[i]? = some x) (hx : Loc X.env.scope x) (hio : i ∉ c.io) (h : PE X e (tO c W mods mo)) (hs : swapsWithSole [.Name x p] e pos.line X.env = pure false := by rfl) (hw : swappedStores [.Name x p] e X.env = pure none := by rfl)
    (hf : X.fn x = true ∨ X.env.scope.names.lookup x = some .local := by first | exact .inl rfl | exact .inr rfl | assumption) : PS X (.Assign [.Name x p] e pos) (tS c W (sSto mo i)) :=
  PSl (ps_asg h (pg_name hN hi hx hf) hs hw) fun D σ H hl ⟨G, S, As, R, q⟩ => by
    refine ⟨G, S, As, [], R, fin_mono (ok_sd q) fun o S1 e1 k => ?_⟩
    intro v A G1 As1 H1 R1 P1 r1 N1 _
    exact k G1 _ _ H1 (R1.put (by rw [hl]; exact (List.getElem?_eq_some_iff.mp hi).1) hio N1 (slOk_of r1))
theorem New.apart {c : Ctx} {G : Hp} {As : Nat → List Addr} {A B : List Addr} {i : Nat} (b : New c G As B) (d : ∀ x ∈ B, x ∉ A) : New c G (upA As i A) B :=
  ⟨b.nd, b.h0, b.g, fun a ha j z => by
    by_cases h : j = i
    · rw [h, upA_same] at z
      exact d a ha z
    · rw [upA_ne h] at z
      exact b.out a ha j z⟩
theorem zPar {i j : Nat} {x y : Str} {px py pt : Pos} {kt k2 pt2} (hc : X.calm = true) (hN : X.N.Nodup) (hi : X.N[i]? = some x) (hj : X.N[j]? = some y) (hij : i ≠ j)
    (hx : X.env.scope.names.lookup x = some .local) (hy : X.env.scope.names.lookup y = some .local) (hio : i ∉ c.io) (hjo : j ∉ c.io) (ha : PA X [a, b] (tAO c W mods ma))
    (hw : swappedStores [.Tuple [.Name x px, .Name y py] kt pt] (.Tuple [a, b] k2 pt2) X.env = pure (some [x, y]) := by rfl)
    (hs : swapsWithSole [.Tuple [.Name x px, .Name y py] kt pt] (.Tuple [a, b] k2 pt2) pos.line X.env = pure false := by rfl) :
    PS X (.Assign [.Tuple [.Name x px, .Name y py] kt pt] (.Tuple [a, b] k2 pt2) pos) (tS c W (sPar i j ma)) :=
  PSl (ps_par hc hN hi hj hij hx hy ha hw hs) fun D σ H hl ⟨G, S, As, R, q⟩ => by
    refine ⟨G, S, As, [], R, fin_mono (ok_sd q) fun os S1 e1 k => ?_⟩
    intro vs A G1 As1 H1 R1 P1 r1 N1 _
    have li : i < σ.length := by rw [hl]; exact (List.getElem?_eq_some_iff.mp hi).1
    have lj : j < σ.length := by rw [hl]; exact (List.getElem?_eq_some_iff.mp hj).1
    match os, k, r1 with
    | [o1, o2], k, r1 =>
      obtain ⟨v, r, A1, A2, rfl, rfl, h3, h4⟩ := r1.consE
      obtain ⟨w, r', A3, A4, rfl, rfl, h5, h6⟩ := h4.consE
      unfold RoL at h6
      obtain ⟨rfl, rfl⟩ := h6
      rw [List.append_nil] at N1
      have nd := List.nodup_append.mp N1.nd
      have Na : New c G1 As1 A1 := ⟨nd.1, fun a h => N1.h0 a (List.mem_append_left _ h), fun a h => N1.g a (List.mem_append_left _ h), fun a h => N1.out a (List.mem_append_left _ h)⟩
      have Nb : New c G1 As1 A3 := ⟨nd.2.1, fun a h => N1.h0 a (List.mem_append_right _ h), fun a h => N1.g a (List.mem_append_right _ h), fun a h => N1.out a (List.mem_append_right _ h)⟩
      have R2 := R1.put (τ := []) li hio Na (slOk_of h3)
      have R3 := R2.put (τ := []) (i := j) (by rw [List.length_set]; exact lj) hjo (Nb.apart fun x hx z => nd.2.2 x z x hx rfl) (slOk_of h5)
      exact ⟨v, w, rfl, k G1 _ _ H1 R3⟩
    | [], k, _ => exact k.elim
    | [_], k, _ => exact k.elim
    | _ :: _ :: _ :: _, k, _ => exact k.elim
theorem zAug {i : Nat} {x : Str} {p : Pos} {op : Operator} {r : R2} {f : D → D → Option D} (hN : X.N.Nodup) (hi : X.N[i]? = some x) (hx : Loc X.env.scope x) (hio : i ∉ c.io) (h : PE X e (tE c W true mods me)) (hm : i ∉ mods) (ho : OpR X (inplaceOp op) r) (hr : Ans2 c r f)
    (hf : X.fn x = true ∨ X.env.scope.names.lookup x = some .local := by first | exact .inl rfl | exact .inr rfl | assumption) : PS X (.AugAssign (.Name x p) op e pos) (tS c W (sAug i f me)) :=
  PSl (ps_aug hN hi hx h (show PIp X op r from ho) hf) fun D σ H hl ⟨G, S, As, R, q⟩ => by
    have li : i < σ.length := by rw [hl]; exact (List.getElem?_eq_some_iff.mp hi).1
    unfold sAug at q
    split at q
    · rename_i x e
      obtain ⟨v, h1, h2⟩ := pl_at R li e
      refine ⟨v, h1, G, S, As, [], R, fin_mono (ok_sd q) fun y S1 e1 k => ?_⟩
      intro w G1 As1 H1 R1 P1 r1
      cases hf : f x y with
      | none =>
        rw [hf] at k
        exact k.elim
      | some z =>
        rw [hf] at k
        refine hr G1 H1 x y z v w _ R1.exG (Rs.mono P1.exG h2) (Rs.mono R1.exG r1) hf fun u hu => ?_
        exact k G1 _ _ H1 (R1.put (s := .pl z) li hio New.nil ⟨rfl, u, rfl, hu⟩)
    · exact q.elim
theorem lt_of_ix {n : Nat} {k : Int} {j : Nat} (h : ixN n k = some j) : j < n := (ixN_seq h).2.1
/-- x[k] = e -/
theorem zSetI (hp : PE X o (tP c W m2 i mp)) (hi : PE X a (tE c W true m3 mi)) (he : PE X e (tO c W m1 mo)) (hm : i ∉ m3 := by decide)
    (hs : swapsWithSole [.Subscript o a tpos] e pos.line X.env = pure false := by rfl) (hw : swappedStores [.Subscript o a tpos] e X.env = pure none := by rfl) (h1 : (assignEach [.Subscript o a tpos] X.env).map (·.2) = [assign (.Subscript o a tpos) X.env] := by rfl)
    (hg : ∀ v, assign (.Subscript o a tpos) X.env v = (do
      let ov ← holding [v] (eval o X.env)
      let iv ← holding [v, ov] (eval a X.env)
      standAt tpos
      holding [v, ov, iv] (setItem ov iv v)
      release [v, ov, iv] []) := by intro _; rfl) : PS X (.Assign [.Subscript o a tpos] e pos) (tS c W (sSetI i mo mp mi)) :=
  PSw (ps_asg he (pg_sub hp hi set_list hg) hs hw h1) fun D σ H ⟨G, S, As, R, q⟩ => by
    refine ⟨G, S, As, [], R, fin_mono (ok_sd q) fun oo S1 e1 k1 => ?_⟩
    intro v A G1 As1 H1 R1 P1 r1 N1 F1
    refine ⟨G1, S1, As1, [], R1, fin_mono (ok_sd k1) fun p S2 e2 k2 => ?_⟩
    intro w G2 As2 H2 R2 P2 hl ⟨v0, hv0, pv⟩ ⟨o1, ho1⟩
    refine ⟨G2, S2, As2, [], R2, fin_mono (ok_sd k2) fun d S3 e3 k3 => ?_⟩
    intro u G3 As3 H3 R3 P3 r3
    obtain ⟨pv3, ho3, eA⟩ := path_later R2 P3 hm hl hv0 pv ho1
    obtain ⟨N2, kp2⟩ := N1.later (Ro.there r1) P2
    have r1b := Ro.keep P2.exG r1 kp2
    obtain ⟨N3, kp3⟩ := N2.later (Ro.there r1b) P3
    have r1c := Ro.keep P3.exG r1b kp3
    have k4 : okS c W D (setL i p d oo S3) := k3
    unfold setL at k4
    rw [ho3] at k4
    cases o1 with
    | lst os =>
      cases d with
      | int n =>
        simp only at k4
        cases hx : ixN os.length n with
        | none => rw [hx] at k4; exact k4.elim
        | some j =>
          rw [hx] at k4
          obtain ⟨l, xs, B, rfl, hH, rB, nB, dB, go⟩ := mut_lst R3 ((P1.trans P2).trans P3) hl hv0 pv3 ho3 N3 ((F1.post).post)
          obtain ⟨B', rB', nB', sub⟩ := RoL.setAt (j := j) rB nB N3.nd dB r1c (lt_of_ix hx)
          obtain ⟨As4, R4, _⟩ := go _ _ B' rB' nB' sub
          unfold Rs at r3
          exact ⟨l, xs, n, j, rfl, r3, hH, by rw [← RoL.length rB]; exact hx, k4 G3 As4 σ _ R4⟩
      | _ => exact k4.elim
    | _ => exact k4.elim
theorem get_list : PGet X (rIxL X.K) := by
  intro pins s σ H x y v u Q I rx ry h
  obtain ⟨p, xs, i, z, rfl, rfl, hq, he, q⟩ := h
  cases rx
  obtain ⟨t, rfl⟩ := ry
  obtain ⟨its, r, pl, hz⟩ := I.list hq
  obtain ⟨j, h1, h2, h3, h4, h5⟩ := atI_get he
  obtain ⟨w, ew, rw'⟩ := r.get h2
  have hl := r.length
  have hn := line63
  have fin : EP X pins σ Q w s := ⟨z, H, I, rw', q⟩
  by_cases h0 : 0 ≤ i
  · have hj : i.toNat = j := by
      rw [seqIndex_of h0 h5] at h1
      exact Option.some.inj h1
    exact wpAny_getItem_list pl.isList h0 (by omega) (by rw [hj]; simpa using ew) fin
  · have hj : (i + (its.toArray.size : Int)).toNat = j := by
      rw [seqIndex_neg (by omega) h4] at h1
      rw [List.size_toArray, ← hl]
      exact Option.some.inj h1
    exact wpAny_getItem_list_neg pl.isList (by omega) (by rw [List.size_toArray] <;> omega) (by omega) (by rw [hj]; simpa using ew) fin
/-- x[k] op= e -/
theorem zAugI {op : Operator} {r : R2} {f : D → D → Option D} (hp : PE X o (tP c W m1 i mp)) (hi : PE X a (tE c W true m2 mi)) (he : PE X e (tE c W true m3 me)) (ho : OpR X (inplaceOp op) r) (hr : Ans2 c r f) (hm : i ∉ m2 := by decide) (hm3 : i ∉ m3 := by decide)
    (ha : ∀ ov iv new, augStore a ov iv new = (do holding [new, ov, iv] (setItem ov iv new); release [new, ov, iv] []; pure .next) := by intros; rfl) : PS X (.AugAssign (.Subscript o a tpos) op e pos) (tS c W (sAugI i f mp mi me)) :=
  PSw (ps_augS hp hi get_list he (show PIp X op r from ho) set_list ha) fun D σ H ⟨G, S, As, R, q⟩ => by
    refine ⟨G, S, As, [], R, fin_mono (ok_sd q) fun p S1 e1 k1 => ?_⟩
    intro w G1 As1 H1 R1 P1 hl ⟨v0, hv0, pv⟩ ⟨o1, ho1⟩
    refine ⟨G1, S1, As1, [], R1, fin_mono (ok_sd k1) fun d S2 e2 k2 => ?_⟩
    intro u G2 As2 H2 R2 P2 r2
    obtain ⟨pv2, ho2, eA⟩ := path_later R1 P2 hm hl hv0 pv ho1
    unfold getL at k2
    rw [ho2] at k2
    cases o1 with
    | lst os =>
      cases d with
      | int n =>
        simp only at k2
        cases hx : ixN os.length n with
        | none => rw [hx] at k2; exact k2.elim
        | some j =>
          rw [hx] at k2
          simp only at k2
          cases hj : os[j]? with
          | none => rw [hj] at k2; exact k2.elim
          | some oj =>
            rw [hj] at k2
            cases oj with
            | sh x =>
              obtain ⟨l, xs, B, rfl, hH, rB, nB, dB, _⟩ := mut_lst (A := []) R2 (P1.trans P2) hl hv0 pv2 ho2 New.nil (fun _ z => nomatch z)
              obtain ⟨xv, L, A1, Rr, hxv, _, rx, _⟩ := RoL.split rB hj
              unfold Ro at rx
              unfold Rs at r2
              have hat : atI xs n = some xv := by
                unfold atI
                rw [← RoL.length rB, hx]
                exact hxv
              refine ⟨l, xs, n, xv, rfl, r2, SqL.of hH, hat, G2, S2, As2, [], R2, fin_mono (ok_sd k2) fun y S3 e3 k3 => ?_⟩
              intro yv G3 As3 H3 R3 P3 r3
              obtain ⟨pv3, ho3, eA3⟩ := path_later R2 P3 hm3 hl hv0 pv2 ho2
              cases hf : f x y with
              | none =>
                rw [hf] at k3
                exact k3.elim
              | some z =>
                rw [hf] at k3
                refine hr G3 H3 x y z xv yv _ R3.exG (Rs.mono P3.exG rx.2) (Rs.mono R3.exG r3) hf fun zv hz => ?_
                have k4 : okS c W D (setL i p (.int n) (.sh z) S3) := k3
                unfold setL at k4
                rw [ho3] at k4
                simp only at k4
                rw [hx] at k4
                obtain ⟨l', xs', B', el, hH', rB', nB', dB', go'⟩ := mut_lst (A := []) R3 ((P1.trans P2).trans P3) hl hv0 pv3 ho3 New.nil (fun _ z => nomatch z)
                cases el
                obtain ⟨B2, rB2, nB2, sub2⟩ := RoL.setAt (A := []) (j := j) (o := .sh z) (y := zv) rB' nB' List.nodup_nil (fun _ _ h => nomatch h) (by unfold Ro; exact ⟨rfl, hz⟩) (lt_of_ix hx)
                obtain ⟨As4, R4, _⟩ := go' _ _ B2 rB2 nB2 sub2
                exact ⟨l, xs', n, j, rfl, r2, hH', by rw [← RoL.length rB']; exact hx, k4 G3 As4 σ _ R4⟩
            | _ => exact k2.elim
      | _ => exact k2.elim
    | _ => exact k2.elim
end
end Z

/-! Z16: is, chains, isinstance, built-in calls, slices, lists joined. -/
namespace Z
open PySem PySem.Spec PyProof.Rows L2
/-! ### is -/
def isBlD (b : Bool) : D → Bool
  | .bl k => k == b
  | _ => false
def isNonD : D → Bool
  | .non => true
  | _ => false
def isB (x y : D) : Option Bool := match y with
  | .non => some (isNonD x)
  | .bl b => some (isBlD b x)
  | _ => none
def dIs (x y : D) : Option D := (isB x y).map D.bl
def dIsn (x y : D) : Option D := (isB x y).map fun b => D.bl (!b)
section
variable {X : Cx}
def okV : V → Bool
  | .non => true
  | .bl _ => true
  | .int _ => true
  | .str _ => true
  | .ref _ => true
  | _ => false
theorem beq_bl {x : V} {v : Value} {b : Bool} (hx : okV x = true) (rx : RelV x v) : plainIs v (.bool b) = true ∧ decide (x = .bl b) = (v == Value.bool b) := by
  have key : ∀ u : Value, (u == Value.bool b) = decide (u = Value.bool b) := fun u => by
    by_cases h : u = Value.bool b
    · rw [h, decide_eq_true rfl]; exact beq_self_eq_true _
    · rw [decide_eq_false h]; exact beq_eq_false_iff_ne.mpr h
  rw [key]
  cases x with
  | bl k =>
    cases rx
    refine ⟨rfl, ?_⟩
    by_cases h : k = b
    · rw [h, decide_eq_true rfl, decide_eq_true rfl]
    · rw [decide_eq_false (fun z => h (Value.bool.inj z)), decide_eq_false (fun z => h (V.bl.inj z))]
  | int i => obtain ⟨t, rfl⟩ := rx; exact ⟨rfl, rfl⟩
  | str z => obtain ⟨t, rfl⟩ := rx; exact ⟨rfl, rfl⟩
  | non => cases rx; exact ⟨rfl, rfl⟩
  | ref a => cases rx; exact ⟨rfl, rfl⟩
  | _ => cases hx
theorem op_isBl : OpR X (compareOp .Is) (fun x y H Q => ∃ b, y = .bl b ∧ okV x = true ∧ Q (.bl (decide (x = .bl b))) H) := by
  intro pins s σ H x y v u Q I rx ry h
  obtain ⟨b, rfl, hx, q⟩ := h
  cases ry
  obtain ⟨h1, h2⟩ := beq_bl (b := b) hx rx
  exact wpAny_is_plain h1 (fin_bl I q h2)
theorem op_notBl : OpR X (compareOp .IsNot) (fun x y H Q => ∃ b, y = .bl b ∧ okV x = true ∧ Q (.bl (!decide (x = .bl b))) H) := by
  intro pins s σ H x y v u Q I rx ry h
  obtain ⟨b, rfl, hx, q⟩ := h
  cases ry
  obtain ⟨h1, h2⟩ := beq_bl (b := b) hx rx
  exact wpAny_isNot_plain h1 (fin_bl I q (congrArg not h2))
theorem OpR.or {f : Value → Value → Sem Value} {r r' : R2} (h : OpR X f r) (h' : OpR X f r') : OpR X f (fun x y H Q => r x y H Q ∨ r' x y H Q) := by
  intro pins s σ H x y v u Q I rx ry q
  rcases q with q | q
  · exact h pins s σ H x y v u Q I rx ry q
  · exact h' pins s σ H x y v u Q I rx ry q
end
section
variable {c : Ctx}
theorem rs_okV {E : Ev} {H : Hp} {d : D} {x : V} (h : Rs E H d x) : okV x = true := by
  cases d with
  | obj C fs ds =>
    unfold Rs at h
    obtain ⟨a, dx, fv, rfl, _⟩ := h
    rfl
  | _ =>
    unfold Rs at h
    first
      | (subst h; rfl)
      | (obtain ⟨a, _, rfl, _⟩ := h; rfl)
theorem is_non {E : Ev} {H : Hp} {d : D} {x : V} (h : Rs E H d x) : decide (x = .non) = isNonD d := by
  cases d with
  | obj C fs ds =>
    unfold Rs at h
    obtain ⟨a, dx, fv, rfl, _⟩ := h
    rfl
  | _ =>
    unfold Rs at h
    first
      | (subst h; rfl)
      | (obtain ⟨a, _, rfl, _⟩ := h; rfl)
theorem is_bl {E : Ev} {H : Hp} {d : D} {x : V} {b : Bool} (h : Rs E H d x) : decide (x = .bl b) = isBlD b d := by
  cases d with
  | bl k =>
    unfold Rs at h
    subst h
    show decide (V.bl k = V.bl b) = (k == b)
    by_cases e : k = b
    · rw [e]; simp
    · rw [decide_eq_false (fun z => e (V.bl.inj z)), beq_eq_false_iff_ne.mpr e]
  | obj C fs ds =>
    unfold Rs at h
    obtain ⟨a, dx, fv, rfl, _⟩ := h
    rfl
  | _ =>
    unfold Rs at h
    first
      | (subst h; rfl)
      | (obtain ⟨a, _, rfl, _⟩ := h; rfl)
theorem ans_is : Ans2 c (fun x y H Q => (y = .non ∧ Q (.bl (decide (x = .non))) H) ∨ ∃ b, y = .bl b ∧ okV x = true ∧ Q (.bl (decide (x = .bl b))) H) dIs := fun h H dx dy d x y Q e rx ry hf k => by
  unfold dIs isB at hf
  cases dy with
  | non =>
    cases hf
    unfold Rs at ry
    exact .inl ⟨ry, by rw [is_non rx]; exact k _ (by unfold Rs; rfl)⟩
  | bl b =>
    cases hf
    unfold Rs at ry
    exact .inr ⟨b, ry, rs_okV rx, by rw [is_bl rx]; exact k _ (by unfold Rs; rfl)⟩
  | _ => cases hf
theorem ans_isn : Ans2 c (fun x y H Q => (y = .non ∧ Q (.bl (!decide (x = .non))) H) ∨ ∃ b, y = .bl b ∧ okV x = true ∧ Q (.bl (!decide (x = .bl b))) H) dIsn := fun h H dx dy d x y Q e rx ry hf k => by
  unfold dIsn isB at hf
  cases dy with
  | non =>
    cases hf
    unfold Rs at ry
    exact .inl ⟨ry, by rw [is_non rx]; exact k _ (by unfold Rs; rfl)⟩
  | bl b =>
    cases hf
    unfold Rs at ry
    exact .inr ⟨b, ry, rs_okV rx, by rw [is_bl rx]; exact k _ (by unfold Rs; rfl)⟩
  | _ => cases hf
theorem scal_is : Scal2 dIs := fun x y d hf => by
  unfold dIs at hf
  cases h : isB x y with
  | none => rw [h] at hf; cases hf
  | some b => rw [h] at hf; cases hf; rfl
theorem scal_isn : Scal2 dIsn := fun x y d hf => by
  unfold dIsn at hf
  cases h : isB x y with
  | none => rw [h] at hf; cases hf
  | some b => rw [h] at hf; cases hf; rfl
end
section
variable {X : Cx} {c : Ctx} {W : XK} {mods m1 m2 m3 : List Nat} {md md1 md2 md3 : Bool} {e a b d o : Expr} {es : List Expr} {pos apos cpos tpos p : Pos} {ma mb mc mi me : M D} {m : M (List D)}
theorem zIs (ha : PE X a (tE c W md1 m1 ma)) (hb : PE X b (tE c W md2 m2 mb)) (hm : (md1 || m2.isEmpty) = true := by rfl) : PE X (.Compare a [.Is] [b] pos) (tE c W true (m1 ++ m2) (m2x dIs ma mb)) :=
  PEw (pe_cmpR (op_isN.or op_isBl) ha hb (nomark _)) (w_opS ans_is scal_is hm)
theorem zIsn (ha : PE X a (tE c W md1 m1 ma)) (hb : PE X b (tE c W md2 m2 mb)) (hm : (md1 || m2.isEmpty) = true := by rfl) : PE X (.Compare a [.IsNot] [b] pos) (tE c W true (m1 ++ m2) (m2x dIsn ma mb)) :=
  PEw (pe_cmpR (op_notN.or op_notBl) ha hb (nomark _)) (w_opS ans_isn scal_isn hm)
theorem yIs (ha : PE X a (tE c W md1 m1 ma)) (hb : PE X b (tE c W md2 m2 mb)) (hm : (md1 || m2.isEmpty) = true := by rfl) : PT X (.Compare a [.Is] [b] pos) (tT c W (m1 ++ m2) (mTst (m2x dIs ma mb))) :=
  PTw (pt_cmpR (op_isN.or op_isBl) ha hb (nomark _)) (w_tst (w_opS ans_is scal_is hm))
theorem yIsn (ha : PE X a (tE c W md1 m1 ma)) (hb : PE X b (tE c W md2 m2 mb)) (hm : (md1 || m2.isEmpty) = true := by rfl) : PT X (.Compare a [.IsNot] [b] pos) (tT c W (m1 ++ m2) (mTst (m2x dIsn ma mb))) :=
  PTw (pt_cmpR (op_notN.or op_notBl) ha hb (nomark _)) (w_tst (w_opS ans_isn scal_isn hm))
/-! ### chains: all parts shared -/
def mCh (f g : D → D → Option D) (ma mb mc : M D) : M D := fun S => (ma S).bd fun x S1 => (mb S1).bd fun y S2 => match f x y with
  | some (.bl true) => (mc S2).bd fun z S3 => oo (g y z) S3
  | some (.bl false) => .ok (.bl false) S2
  | _ => .bad
theorem w_ch {r r' : R2} {f g : D → D → Option D} (hr : Ans2 c r f) (hr' : Ans2 c r' g) (hs : Scal2 g) (σ : L2.St) (H : Hp) (Q : VK) (h : tE c W true (m1 ++ (m2 ++ m3)) (mCh f g ma mb mc) σ H Q) : tChain r r' (tE c W true m1 ma) (tE c W true m2 mb) (tE c W true m3 mc) σ H Q := by
  obtain ⟨G, S, As, τ, R, q⟩ := h
  refine ⟨G, S, As, τ, R, fin_mono (fin_bd q) fun dx S1 e1 k => ?_⟩
  intro v G1 As1 H1 R1 P1 r1
  refine ⟨G1, S1, As1, τ, R1, fin_mono (fin_bd k) fun dy S2 e2 k2 => ?_⟩
  intro u G2 As2 H2 R2 P2 r2
  have P12 : Post (m1 ++ (m2 ++ m3)) S S2 As As2 G G2 H H2 := (P1.trans P2).mono fun j hj => by
    rcases List.mem_append.mp hj with z | z
    · exact List.mem_append_left _ z
    · exact List.mem_append_right _ (List.mem_append_left _ z)
  cases hf : f dx dy with
  | none => rw [hf] at k2; exact k2.elim
  | some d =>
    rw [hf] at k2
    refine hr G2 H2 dx dy d v u _ R2.exG (Rs.mono P2.exG r1) (Rs.mono R2.exG r2) hf fun w hw => ?_
    cases d with
    | bl b =>
      unfold Rs at hw
      refine ⟨b, hw, ?_⟩
      cases b with
      | true =>
        rw [if_pos rfl]
        refine ⟨G2, S2, As2, τ, R2, fin_mono (fin_bd k2) fun dz S3 e3 k3 => ?_⟩
        intro z G3 As3 H3 R3 P3 r3
        cases hg : g dy dz with
        | none => rw [hg] at k3; exact k3.elim
        | some d2 =>
          rw [hg] at k3
          refine hr' G3 H3 dy dz d2 u z _ R3.exG (Rs.mono P3.exG r2) (Rs.mono R3.exG r3) hg fun w2 hw2 => ?_
          exact k3 w2 G3 As3 H3 R3 ((P1.trans (P2.trans P3))) hw2
      | false =>
        rw [if_neg Bool.false_ne_true]
        exact k2 _ G2 As2 H2 R2 P12 (by unfold Rs; rfl)
    | _ => exact k2.elim
theorem zCh {op op' : CmpOp} {r r' : R2} {f g : D → D → Option D} (ho : OpR X (compareOp op) r) (ho' : OpR X (compareOp op') r') (hr : Ans2 c r f) (hr' : Ans2 c r' g) (hs : Scal2 g) (ha : PE X a (tE c W true m1 ma)) (hb : PE X b (tE c W true m2 mb)) (hc : PE X d (tE c W true m3 mc))
    (hm : lastMarks [op, op'] [b, d] = false := by with_unfolding_all rfl) : PE X (.Compare a [op, op'] [b, d] pos) (tE c W true (m1 ++ (m2 ++ m3)) (mCh f g ma mb mc)) := PEw (pe_chain ho ho' ha hb hc hm) (w_ch hr hr' hs)
theorem yCh {op op' : CmpOp} {r r' : R2} {f g : D → D → Option D} (ho : OpR X (compareOp op) r) (ho' : OpR X (compareOp op') r') (hr : Ans2 c r f) (hr' : Ans2 c r' g) (hs : Scal2 g) (ha : PE X a (tE c W true m1 ma)) (hb : PE X b (tE c W true m2 mb)) (hc : PE X d (tE c W true m3 mc))
    (hm : lastMarks [op, op'] [b, d] = false := by with_unfolding_all rfl) : PT X (.Compare a [op, op'] [b, d] pos) (tT c W (m1 ++ (m2 ++ m3)) (mTst (mCh f g ma mb mc))) := PTw (pt_chain ho ho' ha hb hc hm) (w_tst (w_ch hr hr' hs))
theorem ans_lt : Ans2 c (rI0 fun i j => .bl (decide (i < j))) dLt := ans_I0 fun _ _ _ => by unfold Rs; rfl
theorem ans_le : Ans2 c (rI0 fun i j => .bl (decide (i ≤ j))) dLe := ans_I0 fun _ _ _ => by unfold Rs; rfl
theorem scal_lt : Scal2 dLt := scal_I0 fun _ _ => rfl
theorem scal_le : Scal2 dLe := scal_I0 fun _ _ => rfl
theorem zCh12 (ha : PE X a (tE c W true m1 ma)) (hb : PE X b (tE c W true m2 mb)) (hc : PE X d (tE c W true m3 mc)) (hm : lastMarks [.LtE, .Lt] [b, d] = false := by with_unfolding_all rfl) : PE X (.Compare a [.LtE, .Lt] [b, d] pos) (tE c W true (m1 ++ (m2 ++ m3)) (mCh dLe dLt ma mb mc)) := zCh op_le op_lt ans_le ans_lt scal_lt ha hb hc hm
theorem yCh12 (ha : PE X a (tE c W true m1 ma)) (hb : PE X b (tE c W true m2 mb)) (hc : PE X d (tE c W true m3 mc)) (hm : lastMarks [.LtE, .Lt] [b, d] = false := by with_unfolding_all rfl) : PT X (.Compare a [.LtE, .Lt] [b, d] pos) (tT c W (m1 ++ (m2 ++ m3)) (mTst (mCh dLe dLt ma mb mc))) := yCh op_le op_lt ans_le ans_lt scal_lt ha hb hc hm
theorem zCh22 (ha : PE X a (tE c W true m1 ma)) (hb : PE X b (tE c W true m2 mb)) (hc : PE X d (tE c W true m3 mc)) (hm : lastMarks [.LtE, .LtE] [b, d] = false := by with_unfolding_all rfl) : PE X (.Compare a [.LtE, .LtE] [b, d] pos) (tE c W true (m1 ++ (m2 ++ m3)) (mCh dLe dLe ma mb mc)) := zCh op_le op_le ans_le ans_le scal_le ha hb hc hm
theorem yCh22 (ha : PE X a (tE c W true m1 ma)) (hb : PE X b (tE c W true m2 mb)) (hc : PE X d (tE c W true m3 mc)) (hm : lastMarks [.LtE, .LtE] [b, d] = false := by with_unfolding_all rfl) : PT X (.Compare a [.LtE, .LtE] [b, d] pos) (tT c W (m1 ++ (m2 ++ m3)) (mTst (mCh dLe dLe ma mb mc))) := yCh op_le op_le ans_le ans_le scal_le ha hb hc hm
theorem zCh11 (ha : PE X a (tE c W true m1 ma)) (hb : PE X b (tE c W true m2 mb)) (hc : PE X d (tE c W true m3 mc)) (hm : lastMarks [.Lt, .Lt] [b, d] = false := by with_unfolding_all rfl) : PE X (.Compare a [.Lt, .Lt] [b, d] pos) (tE c W true (m1 ++ (m2 ++ m3)) (mCh dLt dLt ma mb mc)) := zCh op_lt op_lt ans_lt ans_lt scal_lt ha hb hc hm
theorem yCh11 (ha : PE X a (tE c W true m1 ma)) (hb : PE X b (tE c W true m2 mb)) (hc : PE X d (tE c W true m3 mc)) (hm : lastMarks [.Lt, .Lt] [b, d] = false := by with_unfolding_all rfl) : PT X (.Compare a [.Lt, .Lt] [b, d] pos) (tT c W (m1 ++ (m2 ++ m3)) (mTst (mCh dLt dLt ma mb mc))) := yCh op_lt op_lt ans_lt ans_lt scal_lt ha hb hc hm
/-- -a -/
def dNeg : D → Option D
  | .int i => some (.int (-i))
  | _ => none
theorem zNeg (ha : PE X a (tE c W md m1 ma)) : PE X (.UnaryOp .USub a pos) (tE c W true m1 (m1x dNeg ma)) := PEw (pe_un un_neg ha) fun σ H Q ⟨G, S, As, τ, R, q⟩ => by
  refine ⟨G, S, As, τ, R, fin_mono (fin_bd q) fun dx S1 e1 k => ?_⟩
  intro v G1 As1 H1 R1 P1 r1
  cases dx with
  | int i =>
    unfold Rs at r1
    exact ⟨i, r1, k _ G1 As1 H1 R1 P1 (by unfold Rs; rfl)⟩
  | _ => exact k.elim
end
end Z

/-! Z17: isinstance, built-in calls. -/
namespace Z
open PySem PySem.Spec PyProof.Rows L2
/-! ### isinstance -/
inductive Kd where
  | non | bl | int | str | lst | tup | dic
def Kd.nm : Kd → String
  | .non => "NoneType"
  | .bl => "bool"
  | .int => "int"
  | .str => "str"
  | .lst => "list"
  | .tup => "tuple"
  | .dic => "dict"
def Kd.is : Kd → Kd → Bool
  | .non, .non => true
  | .bl, .bl => true
  | .bl, .int => true
  | .int, .int => true
  | .str, .str => true
  | .lst, .lst => true
  | .tup, .tup => true
  | .dic, .dic => true
  | _, _ => false
theorem kit7 (a b : Kd) : kitB a.nm b.nm = some (a.is b) := by
  cases a <;> cases b <;> decide +kernel
def dkd : D → Kd ⊕ Str
  | .non => .inl .non
  | .bl _ => .inl .bl
  | .int _ => .inl .int
  | .str _ => .inl .str
  | .lst _ => .inl .lst
  | .tup _ => .inl .tup
  | .dic _ _ => .inl .dic
  | .obj C _ _ => .inr C
  | .fls _ => .inl .lst
/-- what isinstance finds of an own object of class C: fo -/
def dIsi (fb : Kd → Option Bool) (fo : Str → Option Bool) (d : D) : Option D := match dkd d with
  | .inl k => (fb k).map D.bl
  | .inr C => (fo C).map D.bl
/-- an own class's objects have a class -/
structure InsK (K : PySem.W.Frag) (C : Addr) : Prop where
  cl : Cls K C
  ha : PySem.W.findIn K (.ref C) "__class__" = some (some (.builtin "object.__class__"))
  hn : PySem.W.specialIn K (.builtin "object.__class__") "__get__" = some (some (.builtin "getset_descriptor.__get__"))
  tk : PySem.W.takesIn K (.builtin "object.__class__") = some true
  hm : PySem.W.mroIn K C (.type "object") = some true
theorem tyx_kd {E : Ev} {H : Hp} {d : D} {x : V} {k : Kd} (h : Rs E H d x) (e : dkd d = .inl k) : TyX E.K H x (.type k.nm) := by
  cases d with
  | non => cases e; unfold Rs at h; subst h; exact .base .non
  | bl b => cases e; unfold Rs at h; subst h; exact .base (.bl b)
  | int i => cases e; unfold Rs at h; subst h; exact .base (.int i)
  | str s => cases e; unfold Rs at h; subst h; exact .base (.str s)
  | lst ds =>
    cases e
    unfold Rs at h
    obtain ⟨a, xs, rfl, h2, _⟩ := h
    exact .base (.lst h2)
  | tup ds =>
    cases e
    unfold Rs at h
    obtain ⟨a, xs, rfl, h2, _⟩ := h
    rcases h2.sq with (q | ⟨o, q⟩) | ⟨o, its, n, q, qc, _⟩
    · exact .base (.tup q)
    · exact .fTuple q
    · exact .kTuple q qc
  | dic ks ds =>
    cases e
    unfold Rs at h
    obtain ⟨a, kvs, rfl, (q | ⟨o, q⟩), _⟩ := h
    · exact .base (.dK q)
    · exact .fDict q
  | obj C fs ds => cases e
  | fls ds =>
    cases e
    unfold Rs at h
    obtain ⟨a, xs, rfl, h2, _⟩ := h
    rcases h2 with (q | ⟨o, q⟩) | ⟨o, its, n, q, qc, _⟩
    · exact .base (.lst q)
    · exact .base (.frz q)
    · exact .kList q qc
theorem tyx_ob {E : Ev} {H : Hp} {d : D} {x : V} {C : Str} (h : Rs E H d x) (e : dkd d = .inr C) (k : InsK E.K (E.ca C)) : TyX E.K H x (.ref (E.ca C)) := by
  cases d with
  | obj C' fs ds =>
    cases e
    unfold Rs at h
    obtain ⟨a, dx, fv, rfl, h2, _⟩ := h
    exact .base (.ins h2 k.cl k.ha k.hn k.tk k.hm)
  | _ => cases e
section
variable {X : Cx} {c : Ctx} {W : XK} {mods m1 m2 m3 : List Nat} {md md1 md2 md3 : Bool} {e a b d o : Expr} {es : List Expr} {pos apos cpos tpos p p2 : Pos} {ma mb mc mi me : D} {m : M D} {fb : Kd → Option Bool} {fo : Str → Option Bool}
theorem w_isi {cv : V} {u : Value} (hK : c.E.K = X.K) (hu : ClsV cv u) (hb : ∀ k r, fb k = some r → PySem.W.kitOne X.K (.type k.nm) u = some r) (ho : ∀ C r, fo C = some r → InsK X.K (c.E.ca C) ∧ PySem.W.kitOne X.K (.ref (c.E.ca C)) u = some r) (σ : L2.St) (H : Hp) (Q : VK)
    (h : tE c W true mods (m1x (dIsi fb fo) m) σ H Q) : tCB (rIsi X.K) (tCons (tE c W md mods m) (tCons (tC cv) tNil)) σ H Q := by
  obtain ⟨G, S, As, τ, R, q⟩ := h
  refine ⟨G, S, As, τ, R, fin_mono (fin_bd q) fun dx S1 e1 k => ?_⟩
  intro v G1 As1 H1 R1 P1 r1
  have r2 := Rs.mono (hp_ex R1.exG) r1
  have k' : fin c W (oo (dIsi fb fo dx) S1) _ := k
  unfold dIsi at k'
  cases hk : dkd dx with
  | inl kd =>
    rw [hk] at k'
    simp only at k'
    cases hf : fb kd with
    | none => rw [hf] at k'; exact k'.elim
    | some r =>
      rw [hf] at k'
      exact ⟨v, cv, _, u, r, rfl, hu, hK ▸ tyx_kd r2 hk, hb kd r hf, k' _ G1 As1 H1 R1 P1 (by unfold Rs; rfl)⟩
  | inr C =>
    rw [hk] at k'
    simp only at k'
    cases hf : fo C with
    | none => rw [hf] at k'; exact k'.elim
    | some r =>
      rw [hf] at k'
      obtain ⟨k1, k2⟩ := ho C r hf
      exact ⟨v, cv, _, u, r, rfl, hu, hK ▸ tyx_ob r2 hk (hK ▸ k1), k2, k' _ G1 As1 H1 R1 P1 (by unfold Rs; rfl)⟩
/-- isinstance(e, T), T built-in -/
def isT (T : Kd) : Kd → Option Bool := fun k => some (k.is T)
def noO : Str → Option Bool := fun _ => none
theorem zIsi {T : Kd} {x : Str} (hK : c.E.K = X.K) (hg : Gl X "isinstance") (hmg : X.mg "isinstance" = none) (hgT : Gl X x) (hmT : X.mg x = none) (hv : bootBuiltins x = some (.type T.nm)) (he : PE X e (tE c W md mods m))
    (hn : x ≠ "__name__" := by decide) (hd : (x == ("__debug__" : Str)) = false := by decide) (hs1 : starEach [e, .Name x p2] X.env = (false, eval e X.env) :: starEach [.Name x p2] X.env := by rfl) (hpl : (backTo pos (starEach [.Name x p2] X.env)).any (·.1) = false := by rfl) :
    PE X (.Call (.Name "isinstance" p) [e, .Name x p2] [] pos) (tE c W true mods (m1x (dIsi (isT T) noO) m)) :=
  PEw (pe_callB call_isi hg hmg PyProof.Rows.boot_isinstance (pa_cons he (pa_cons (pe_bltn (v := .ty T.nm) hgT hmT hv rfl hn hd) pa_nil) hs1) (by decide) (by decide) hs1 hpl)
    (w_isi hK (.ty _) (fun k r h => kit_ty (by rw [kit7]; exact h)) fun C r h => nomatch h)
/-- isinstance(e, C), C an own class -/
theorem zIsiO {C : Addr} {x : Str} (hK : c.E.K = X.K) (hg : Gl X "isinstance") (hmg : X.mg "isinstance" = none) (hgT : Gl X x) (hmT : X.mg x = some (.ref C)) (hb : ∀ k r, fb k = some r → PySem.W.kitOne X.K (.type k.nm) (.ref C) = some r) (ho : ∀ C' r, fo C' = some r → InsK X.K (c.E.ca C') ∧ PySem.W.kitOne X.K (.ref (c.E.ca C')) (.ref C) = some r) (he : PE X e (tE c W md mods m))
    (hd : (x == ("__debug__" : Str)) = false := by decide) (hs1 : starEach [e, .Name x p2] X.env = (false, eval e X.env) :: starEach [.Name x p2] X.env := by rfl) (hpl : (backTo pos (starEach [.Name x p2] X.env)).any (·.1) = false := by rfl) :
    PE X (.Call (.Name "isinstance" p) [e, .Name x p2] [] pos) (tE c W true mods (m1x (dIsi fb fo) m)) :=
  PEw (pe_callB call_isi hg hmg PyProof.Rows.boot_isinstance (pa_cons he (pa_cons (pe_glob (v := .ref C) hgT hmT rfl hd) pa_nil) hs1) (by decide) (by decide) hs1 hpl)
    (w_isi hK (.own _) hb ho)
/-- isinstance(e, (T, U)) -/
def isT2 (T U : Kd) : Kd → Option Bool := fun k => some (k.is T || k.is U)
theorem kit_any {K : PySem.W.Frag} {T U k : Kd} : PySem.W.kitAny K (.type k.nm) [.type T.nm, .type U.nm] = some (k.is T || k.is U) := by
  have h1 : PySem.W.kitOne K (.type k.nm) (.type T.nm) = some (k.is T) := kit_ty (kit7 k T)
  have h2 : PySem.W.kitOne K (.type k.nm) (.type U.nm) = some (k.is U) := kit_ty (kit7 k U)
  refine kitAny_cons h1 (fun e => ?_) fun e => by rw [e]; rfl
  refine kitAny_cons h2 (fun e2 => ?_) fun e2 => by rw [e2]; exact Bool.or_true _
  rw [e, e2]
  rfl
theorem zIsi2 {T U : Kd} {x y : Str} {q1 q2 : Pos} {kk : Nat} (hK : c.E.K = X.K) (hg : Gl X "isinstance") (hmg : X.mg "isinstance" = none) (hgT : Gl X x) (hmT : X.mg x = none) (hv : bootBuiltins x = some (.type T.nm)) (hgU : Gl X y) (hmU : X.mg y = none) (hvU : bootBuiltins y = some (.type U.nm)) (he : PE X e (tE c W md mods m))
    (hn : x ≠ "__name__" := by decide) (hd : (x == ("__debug__" : Str)) = false := by decide) (hnU : y ≠ "__name__" := by decide) (hdU : (y == ("__debug__" : Str)) = false := by decide)
    (hs1 : starEach [e, .Tuple [.Name x q1, .Name y q2] kk p2] X.env = (false, eval e X.env) :: starEach [.Tuple [.Name x q1, .Name y q2] kk p2] X.env := by rfl) (hpl : (backTo pos (starEach [.Tuple [.Name x q1, .Name y q2] kk p2] X.env)).any (·.1) = false := by rfl) :
    PE X (.Call (.Name "isinstance" p) [e, .Tuple [.Name x q1, .Name y q2] kk p2] [] pos) (tE c W true mods (m1x (dIsi (isT2 T U) noO) m)) :=
  PEw (pe_callB call_isiT hg hmg PyProof.Rows.boot_isinstance (pa_cons he (pa_cons (pe_tup (pa_cons (pe_bltn (v := .ty T.nm) hgT hmT hv rfl hn hd) (pa_cons (pe_bltn (v := .ty U.nm) hgU hmU hvU rfl hnU hdU) pa_nil))) pa_nil) hs1) (by decide) (by decide) hs1 hpl) fun σ H Q ⟨G, S, As, τ, R, q⟩ => by
    refine ⟨G, S, As, τ, R, fin_mono (fin_bd q) fun dx S1 e1 k => ?_⟩
    intro v G1 As1 H1 R1 P1 r1
    have r2 := Rs.mono (hp_ex R1.exG) r1
    have k' : fin c W (oo (dIsi (isT2 T U) noO dx) S1) _ := k
    unfold dIsi at k'
    cases hk : dkd dx with
    | inl kd =>
      rw [hk] at k'
      refine ⟨by show 2 ≤ sizeLine; rw [sizeLine_eq]; decide, fun tp htp => ?_⟩
      have R2 := R1.keep (Keep.new (o := .tup [.ty T.nm, .ty U.nm]) htp)
      have P2 : Post mods S1 S1 As1 As1 G1 G1 H1 (upd H1 tp (.tup [.ty T.nm, .ty U.nm])) := Post.of_keep (Ex.refl _) (Keep.new htp) fun _ _ => rfl
      refine ⟨v, tp, [.ty T.nm, .ty U.nm], _, [.type T.nm, .type U.nm], kd.is T || kd.is U, rfl, upd_same, .cons (.ty _) (.cons (.ty _) .nil), hK ▸ tyx_kd (Rs.mono (Ex.new htp) r2) hk, kit_any, ?_⟩
      exact k' _ G1 As1 _ R2 ((P1.trans P2).mono fun j hj => (List.mem_append.mp hj).elim id id) (by unfold Rs; rfl)
    | inr C =>
      rw [hk] at k'
      exact k'.elim
end
end Z

/-! Z18: built-in functions. -/
namespace SrtT
open PySem PyProof.Rows Srt SrtO
section
variable {prog : Program} {w : World} {A : Around} {E : Value → Shared → Prop} {s : Shared}
theorem collect_tup {l : Addr} {vs : List Value} {o : Obj} {n : Nat} {Q : List Value → Shared → Prop} (ho : s.heap.get? l = some o) (hc : o.cls = .type "tuple") (hd : o.data = .seq vs.toArray n)
    (h : Q vs { s with heap := (s.heap.push (seqObj "list" #[] 0)).update s.heap.objs.size (Obj.mapSeq (· ++ vs.toArray)) }) (hsz : vs.length ≤ sizeLine) :
    wpAny (model prog w) A (collect (.ref l)) Q E s := by
  unfold collect
  refine wpAny_bind (wpAny_runValue (codeAny_builtin entry_proto_collect' ?_))
  show wpAny _ _ (do again (.builtin "list.__iadd__" ⟨[← newList [], .ref l], []⟩)) _ _ s
  refine wpAny_bind (wpAny_newList (wpAny_pure ⟨Code.quiet_builtin _ (by decide +kernel), codeAny_builtin entry_list_iadd' ?_⟩))
  show wpAny _ _ (Builtin.List.listExtendWith (.ref s.heap.objs.size) (.ref l) (.ref s.heap.objs.size)) _ _ { s with heap := s.heap.push (seqObj "list" #[] 0) }
  unfold Builtin.List.listExtendWith
  have ho' : (s.heap.push (seqObj "list" #[] 0)).get? l = some o := Heap.get?_push_of_some _ ho
  refine wpAny_bind (wpAny_typeOf (T := "tuple") ⟨o, ho', hc⟩ ?_)
  have ht : (Value.type "tuple" == Value.type "tuple") = true := by rfl
  rw [if_pos (by rw [ht]; simp)]
  refine wpAny_bind (listItems_at ho' hd ?_)
  refine wpAny_bind (listItems_at (xs := #[]) (n := 0) (Heap.get?_push_size _ rfl) rfl ?_)
  rw [if_neg (by simp)]
  refine wpAny_bind (listUpdate_at (xs := #[]) (n := 0) (Heap.get?_push_size _ rfl) rfl ?_ (Nat.zero_le _) (by show (#[] ++ vs.toArray).size ≤ sizeLine + 1; simp only [Array.size_append, List.size_toArray, List.length_nil]; omega))
  refine wpAny_pure ?_
  show wpAny (model prog w) A (do
      let o ← load s.heap.objs.size
      match o.data with
      | .seq xs _ => pure xs.toList
      | _ => unsupported "internal:collect") Q E { s with heap := (s.heap.push (seqObj "list" #[] 0)).update s.heap.objs.size (Obj.mapSeq (· ++ vs.toArray)) }
  refine wpAny_bind (wpAny_load (get?_update_seq (Heap.get?_push_size _ rfl) _) ?_)
  show wpAny _ _ (pure ((#[] : Array Value) ++ vs.toArray).toList) Q E _
  rw [show ((#[] : Array Value) ++ vs.toArray).toList = vs by simp]
  exact wpAny_pure h
theorem sorted_ordT {l : Addr} {vs : List Value} {o : Obj} {n : Nat} {ltv : Value → Value → Bool} {Q : Value → Shared → Prop} (O : Swo ltv) (ho : s.heap.get? l = some o) (hc : o.cls = .type "tuple") (hd : o.data = .seq vs.toArray n) (hz : vs.length ≤ sizeLine)
    (hS : 2 ≤ vs.length → ∀ (h₁ : Heap) (a : Addr), h₁.get? a = some (seqObj "list" vs.toArray 0) → (∀ b o, s.heap.get? b = some o → b ≠ a ∧ h₁.get? b = some o) → SortableO prog w A.in1.in1 { s with heap := h₁ } a vs ltv)
    (h : ∀ out : List Value, Srtd ltv out → Stb ltv out vs → Q (.ref (s.heap.objs.size + 1)) { s with heap := sortedAll s.heap vs out.toArray }) :
    wpAny (model prog w) A (call (.builtin "sorted") [.ref l]) Q E s := by
  refine Calls.call_function_entry kind_sorted plain_sorted entry_sorted (args_sorted1 _) ?_
  unfold Builtin.«sorted»
  refine wpAny_bind (m := checkCount "sorted" 1 1 _) (wpAny_pure ?_)
  refine wpAny_bind (collect_tup ho hc hd ?_ hz)
  refine wpAny_bind (wpAny_newList ?_ hz)
  have hsz : ((s.heap.push (seqObj "list" #[] 0)).update s.heap.objs.size (Obj.mapSeq (· ++ vs.toArray))).objs.size = s.heap.objs.size + 1 := by
    rw [Heap.size_update, size_push']
  have hoL : (((s.heap.push (seqObj "list" #[] 0)).update s.heap.objs.size (Obj.mapSeq (· ++ vs.toArray))).push (seqObj "list" vs.toArray 0)).get? (s.heap.objs.size + 1) = some (seqObj "list" vs.toArray 0) := by
    rw [← hsz]; exact Heap.get?_push_size _ rfl
  have keep : ∀ b o, s.heap.get? b = some o → b ≠ s.heap.objs.size + 1 ∧ (((s.heap.push (seqObj "list" #[] 0)).update s.heap.objs.size (Obj.mapSeq (· ++ vs.toArray))).push (seqObj "list" vs.toArray 0)).get? b = some o := fun b o q => by
    have hlt : b < s.heap.objs.size := Heap.lt_size q
    refine ⟨Nat.ne_of_lt (Nat.lt_succ_of_lt hlt), Heap.get?_push_of_some _ ?_⟩
    rw [Heap.get?_update_ne _ _ _ _ (Nat.ne_of_lt hlt)]
    exact Heap.get?_push_of_some _ q
  show wpAny _ _ _ _ _ { s with heap := ((s.heap.push (seqObj "list" #[] 0)).update s.heap.objs.size (Obj.mapSeq (· ++ vs.toArray))).push (seqObj "list" vs.toArray 0) }
  rw [hsz]
  refine wpAny_bind (wpAny_holding (wpAny_call_entry slot_list_sort ⟨_, hoL, rfl⟩ entry_list_sort (list_sort_ord O hoL hz (fun h2 => hS h2 _ _ hoL keep) fun out hs hb => ⟨_, rfl, ?_⟩) (args_list_sort _)))
  exact wpAny_pure ⟨_, rfl, h out hs hb⟩
end
end SrtT
namespace L2
open PySem PySem.Spec PyProof.Rows
/-- sorted(xs), a tuple of ints -/
def rSortedTI (K : PySem.W.Frag) : List V → Hp → VK → Prop := fun vs H Q => ∃ (a : Addr) (ns : List Int), vs = [V.ref a] ∧ SqT K H a (ns.map V.int) ∧
  ∀ (ns' : List Int) (p : Addr), ns'.Perm ns → ns'.Pairwise (· ≤ ·) → H p = none → Q (.ref p) (upd H p (.lst (ns'.map V.int)))
section
variable {X : Cx}
theorem cr_sortedTI : CallR X (.builtin "sorted") (rSortedTI X.K) := by
  intro pins s σ H vs us Q I r h
  obtain ⟨a, ns, rfl, hs, q⟩ := h
  obtain ⟨its, rv, ⟨o, ho, hc, n, hd⟩, hz⟩ := I.tuple hs
  rw [Vals.ref1 r]
  have hi := rv.ints
  refine SrtT.sorted_ordT SrtO.swo_int ho hc hd (by rw [← rv.length]; exact hz) (fun h2 h₁ a' _ _ => SrtO.ints_sortable hi h2) fun out h1 h2 => ?_
  obtain ⟨k1, k2, k3⟩ := SrtO.ints_out hi h1 h2
  obtain ⟨ep, he'⟩ := PyProof.Rows.sortedAll_at s.heap its out.toArray
  have hlen : ((out.map SrtO.iv).map V.int).length ≤ sizeLine := by
    rw [List.length_map, k2.length_eq]
    rw [List.length_map] at hz
    exact hz
  exact ⟨.ref _, upd H (s.heap.objs.size + 1) (.lst ((out.map SrtO.iv).map V.int)), I.laid (t' := s.toks) (fun _ _ => PyProof.Rows.sortedAll_old) (Nat.le_succ _) ⟨hlen, out, ep, vals_of_ints k1, he'⟩, rfl, q _ _ k2 k3 (I.hok.fresh (Nat.le_succ _))⟩
end
end L2
namespace Z
open PySem PySem.Spec PyProof.Rows L2
theorem CallR.or {X : Cx} {f : Value} {r r' : List V → Hp → VK → Prop} (h : CallR X f r) (h' : CallR X f r') : CallR X f (fun xs H Q => r xs H Q ∨ r' xs H Q) := by
  intro pins s σ H xs us Q I rx q
  rcases q with q | q
  · exact h pins s σ H xs us Q I rx q
  · exact h' pins s σ H xs us Q I rx q
section
variable {X : Cx} {c : Ctx} {W : XK} {mods m1 m2 m3 : List Nat} {md md1 md2 md3 : Bool} {e a b o : Expr} {es : List Expr} {pos apos cpos tpos p p2 : Pos} {m : M (List D)} {x : Str} {r : List V → Hp → VK → Prop}
/-- f(e, ..), f built-in: a scalar answer -/
theorem zB {id : String} {f : List D → Option D} (hc : CallR X (.builtin id) r) (hr : AnsL c r f) (hv : bootBuiltins x = some (.builtin id)) (hg : Gl X x) (hm : X.mg x = none) (ha : PA X (e :: es) (tA c W md mods m)) (hn : x ≠ "__name__" := by decide) (hdb : (x == ("__debug__" : Str)) = false := by decide)
    (he : starEach (e :: es) X.env = (false, eval e X.env) :: starEach es X.env := by rfl) (hpl : (backTo pos (starEach es X.env)).any (·.1) = false := by rfl) : PE X (.Call (.Name x p) (e :: es) [] pos) (tE c W true mods (m1x f m)) :=
  PEw (pe_callB hc hg hm hv ha hn hdb he hpl) (w_cb hr)
theorem zT {T : String} {f : List D → Option D} (hc : CallR X (.type T) r) (hr : AnsL c r f) (hv : bootBuiltins x = some (.type T)) (hg : Gl X x) (hm : X.mg x = none) (ha : PA X (e :: es) (tA c W md mods m)) (hn : x ≠ "__name__" := by decide) (hdb : (x == ("__debug__" : Str)) = false := by decide)
    (he : starEach (e :: es) X.env = (false, eval e X.env) :: starEach es X.env := by rfl) (hpl : (backTo pos (starEach es X.env)).any (·.1) = false := by rfl) : PE X (.Call (.Name x p) (e :: es) [] pos) (tE c W true mods (m1x f m)) :=
  PEw (pe_callTy hc hg hm hv ha hn hdb he hpl) (w_cb hr)
/-- .. a new list -/
def mNew (md : Bool) (f : List D → Option (List D)) (ds : List D) : Option O := (f ds).bind (mkL md)
theorem zBN {id : String} {f : List D → Option (List D)} (hc : CallR X (.builtin id) r) (hr : AnsN c r f) (hv : bootBuiltins x = some (.builtin id)) (hg : Gl X x) (hm : X.mg x = none) (ha : PA X (e :: es) (tA c W md mods m)) (hn : x ≠ "__name__" := by decide) (hdb : (x == ("__debug__" : Str)) = false := by decide)
    (he : starEach (e :: es) X.env = (false, eval e X.env) :: starEach es X.env := by rfl) (hpl : (backTo pos (starEach es X.env)).any (·.1) = false := by rfl) : PE X (.Call (.Name x p) (e :: es) [] pos) (tO c W mods (m1x (mNew md f) m)) :=
  PEw (pe_callB hc hg hm hv ha hn hdb he hpl) (w_cbN hr)
theorem zTN {T : String} {f : List D → Option (List D)} (hc : CallR X (.type T) r) (hr : AnsN c r f) (hv : bootBuiltins x = some (.type T)) (hg : Gl X x) (hm : X.mg x = none) (ha : PA X (e :: es) (tA c W md mods m)) (hn : x ≠ "__name__" := by decide) (hdb : (x == ("__debug__" : Str)) = false := by decide)
    (he : starEach (e :: es) X.env = (false, eval e X.env) :: starEach es X.env := by rfl) (hpl : (backTo pos (starEach es X.env)).any (·.1) = false := by rfl) : PE X (.Call (.Name x p) (e :: es) [] pos) (tO c W mods (m1x (mNew md f) m)) :=
  PEw (pe_callTy hc hg hm hv ha hn hdb he hpl) (w_cbN hr)
end
/-! ### what they answer -/
def seqD : D → Option (List D)
  | .lst ds => some ds
  | .tup ds => some ds
  | .fls ds => some ds
  | _ => none
def lstD : D → Option (List D)
  | .lst ds => some ds
  | .fls ds => some ds
  | _ => none
def intsD : List D → Option (List Int)
  | [] => some []
  | .int n :: ds => (intsD ds).map (n :: ·)
  | _ :: _ => none
def bsD : List D → Option (List Bool)
  | [] => some []
  | .bl n :: ds => (bsD ds).map (n :: ·)
  | _ :: _ => none
theorem intsD_eq : ∀ {ds : List D} {ns : List Int}, intsD ds = some ns → ds = ns.map D.int
  | [], ns, h => by cases h; rfl
  | .int n :: ds, ns, h => by
    have h' : (intsD ds).map (n :: ·) = some ns := h
    cases hr : intsD ds with
    | none => rw [hr] at h'; cases h'
    | some ms =>
      rw [hr] at h'
      cases h'
      rw [intsD_eq hr]
      rfl
  | .non :: _, _, h => by cases h
  | .bl _ :: _, _, h => by cases h
  | .str _ :: _, _, h => by cases h
  | .lst _ :: _, _, h => by cases h
  | .tup _ :: _, _, h => by cases h
  | .dic _ _ :: _, _, h => by cases h
  | .obj _ _ _ :: _, _, h => by cases h
  | .fls _ :: _, _, h => by cases h
theorem bsD_eq : ∀ {ds : List D} {ns : List Bool}, bsD ds = some ns → ds = ns.map D.bl
  | [], ns, h => by cases h; rfl
  | .bl n :: ds, ns, h => by
    have h' : (bsD ds).map (n :: ·) = some ns := h
    cases hr : bsD ds with
    | none => rw [hr] at h'; cases h'
    | some ms =>
      rw [hr] at h'
      cases h'
      rw [bsD_eq hr]
      rfl
  | .non :: _, _, h => by cases h
  | .int _ :: _, _, h => by cases h
  | .str _ :: _, _, h => by cases h
  | .lst _ :: _, _, h => by cases h
  | .tup _ :: _, _, h => by cases h
  | .dic _ _ :: _, _, h => by cases h
  | .obj _ _ _ :: _, _, h => by cases h
  | .fls _ :: _, _, h => by cases h
theorem RsL.bls {E : Ev} {H : Hp} : ∀ {ns : List Bool} {vs : List V}, RsL E H (ns.map D.bl) vs → vs = ns.map V.bl
  | [], vs, h => by
    unfold RsL at h
    exact h
  | n :: ns, vs, h => by
    have h1 : RsL E H (D.bl n :: ns.map D.bl) vs := h
    unfold RsL at h1
    obtain ⟨v, r, rfl, h2, h3⟩ := h1
    unfold Rs at h2
    rw [h2, RsL.bls h3]
    rfl
theorem lst_at {E : Ev} {H : Hp} {d : D} {v : V} {ds : List D} (h : Rs E H d v) (e : lstD d = some ds) : ∃ a xs, v = .ref a ∧ SqL E.K H a xs ∧ RsL E H ds xs := by
  cases d with
  | lst ds' =>
    cases e
    unfold Rs at h
    obtain ⟨a, xs, h1, h2, h3⟩ := h
    exact ⟨a, xs, h1, SqL.of h2, h3⟩
  | fls ds' =>
    cases e
    unfold Rs at h
    obtain ⟨a, xs, h1, h2, h3⟩ := h
    exact ⟨a, xs, h1, h2, h3⟩
  | _ => cases e
theorem seq_at {E : Ev} {H : Hp} {d : D} {v : V} {ds : List D} (h : Rs E H d v) (e : seqD d = some ds) : ∃ a xs, v = .ref a ∧ (SqL E.K H a xs ∨ SqT E.K H a xs) ∧ RsL E H ds xs := by
  cases d with
  | lst ds' =>
    cases e
    unfold Rs at h
    obtain ⟨a, xs, h1, h2, h3⟩ := h
    exact ⟨a, xs, h1, .inl (SqL.of h2), h3⟩
  | fls ds' =>
    cases e
    unfold Rs at h
    obtain ⟨a, xs, h1, h2, h3⟩ := h
    exact ⟨a, xs, h1, .inl h2, h3⟩
  | tup ds' =>
    cases e
    unfold Rs at h
    obtain ⟨a, xs, h1, h2, h3⟩ := h
    exact ⟨a, xs, h1, .inr h2.sq, h3⟩
  | _ => cases e
/-- one list of ints, a scalar answer -/
def f1L (g : List Int → Option D) : List D → Option D
  | [d] => (lstD d).bind fun ds => (intsD ds).bind g
  | _ => none
def f1B (g : List Bool → Option D) : List D → Option D
  | [d] => (lstD d).bind fun ds => (bsD ds).bind g
  | _ => none
theorem f1L_some {g : List Int → Option D} {ds : List D} {d : D} (h : f1L g ds = some d) : ∃ d0 es ns, ds = [d0] ∧ lstD d0 = some es ∧ es = ns.map D.int ∧ g ns = some d := by
  unfold f1L at h
  split at h
  · rename_i d0
    cases h1 : lstD d0 with
    | none => rw [h1] at h; cases h
    | some es =>
      rw [h1, Option.bind_some] at h
      cases h2 : intsD es with
      | none => rw [h2] at h; cases h
      | some ns =>
        rw [h2, Option.bind_some] at h
        exact ⟨d0, es, ns, rfl, h1, intsD_eq h2, h⟩
  · cases h
theorem f1B_some {g : List Bool → Option D} {ds : List D} {d : D} (h : f1B g ds = some d) : ∃ d0 es ns, ds = [d0] ∧ lstD d0 = some es ∧ es = ns.map D.bl ∧ g ns = some d := by
  unfold f1B at h
  split at h
  · rename_i d0
    cases h1 : lstD d0 with
    | none => rw [h1] at h; cases h
    | some es =>
      rw [h1, Option.bind_some] at h
      cases h2 : bsD es with
      | none => rw [h2] at h; cases h
      | some ns =>
        rw [h2, Option.bind_some] at h
        exact ⟨d0, es, ns, rfl, h1, bsD_eq h2, h⟩
  · cases h
theorem rs1 {E : Ev} {H : Hp} {d : D} {vs : List V} (h : RsL E H [d] vs) : ∃ v, vs = [v] ∧ Rs E H d v := by
  unfold RsL at h
  obtain ⟨v, r, rfl, h1, h2⟩ := h
  unfold RsL at h2
  subst h2
  exact ⟨v, rfl, h1⟩
theorem rs2 {E : Ev} {H : Hp} {d d' : D} {vs : List V} (h : RsL E H [d, d'] vs) : ∃ v w, vs = [v, w] ∧ Rs E H d v ∧ Rs E H d' w := by
  unfold RsL at h
  obtain ⟨v, r, rfl, h1, h2⟩ := h
  obtain ⟨w, rfl, h3⟩ := rs1 h2
  exact ⟨v, w, rfl, h1, h3⟩
def fLen : List D → Option D
  | [.str z] => match decide (z.length ≤ sizeLine) with
    | true => some (.int z.length)
    | false => none
  | [d] => (seqD d).map fun ds => D.int ds.length
  | _ => none
def fAbs : List D → Option D
  | [.int i] => some (.int (if i < 0 then -i else i))
  | _ => none
def fMax2 : List D → Option D
  | [.int i, .int j] => some (.int (if j > i then j else i))
  | _ => none
def fMin2 : List D → Option D
  | [.int i, .int j] => some (.int (if j < i then j else i))
  | _ => none
def fInt : List D → Option D
  | [.int i] => some (.int i)
  | [.bl k] => some (.int (if k then 1 else 0))
  | _ => none
def maxL : List Int → Option Int
  | [] => none
  | n :: ns => some (ns.foldl (fun a b => if b > a then b else a) n)
def minL : List Int → Option Int
  | [] => none
  | n :: ns => some (ns.foldl (fun a b => if b < a then b else a) n)
theorem maxL_go : ∀ (ns : List Int) (n : Int), (ns.foldl (fun a b => if b > a then b else a) n) ∈ n :: ns ∧ ∀ y ∈ n :: ns, y ≤ ns.foldl (fun a b => if b > a then b else a) n
  | [], n => ⟨List.mem_cons_self, fun y h => by
    obtain rfl : y = n := by simpa using h
    exact Int.le_refl _⟩
  | m :: ns, n => by
    obtain ⟨h1, h2⟩ := maxL_go ns (if m > n then m else n)
    refine ⟨?_, fun y hy => ?_⟩
    · show ns.foldl _ (if m > n then m else n) ∈ _
      rcases List.mem_cons.mp h1 with q | q
      · rw [q]
        by_cases h : m > n
        · rw [if_pos h]; exact List.mem_cons_of_mem _ List.mem_cons_self
        · rw [if_neg h]; exact List.mem_cons_self
      · exact List.mem_cons_of_mem _ (List.mem_cons_of_mem _ q)
    · show y ≤ ns.foldl _ (if m > n then m else n)
      have h0 := h2 _ List.mem_cons_self
      rcases List.mem_cons.mp hy with q | q
      · by_cases h : m > n
        · rw [if_pos h] at h0 ⊢; omega
        · rw [if_neg h] at h0 ⊢; omega
      · rcases List.mem_cons.mp q with q | q
        · by_cases h : m > n
          · rw [if_pos h] at h0 ⊢; omega
          · rw [if_neg h] at h0 ⊢; omega
        · exact h2 y (List.mem_cons_of_mem _ q)
theorem minL_go : ∀ (ns : List Int) (n : Int), (ns.foldl (fun a b => if b < a then b else a) n) ∈ n :: ns ∧ ∀ y ∈ n :: ns, ns.foldl (fun a b => if b < a then b else a) n ≤ y
  | [], n => ⟨List.mem_cons_self, fun y h => by
    obtain rfl : y = n := by simpa using h
    exact Int.le_refl _⟩
  | m :: ns, n => by
    obtain ⟨h1, h2⟩ := minL_go ns (if m < n then m else n)
    refine ⟨?_, fun y hy => ?_⟩
    · show ns.foldl _ (if m < n then m else n) ∈ _
      rcases List.mem_cons.mp h1 with q | q
      · rw [q]
        by_cases h : m < n
        · rw [if_pos h]; exact List.mem_cons_of_mem _ List.mem_cons_self
        · rw [if_neg h]; exact List.mem_cons_self
      · exact List.mem_cons_of_mem _ (List.mem_cons_of_mem _ q)
    · show ns.foldl _ (if m < n then m else n) ≤ y
      have h0 := h2 _ List.mem_cons_self
      rcases List.mem_cons.mp hy with q | q
      · by_cases h : m < n
        · rw [if_pos h] at h0 ⊢; omega
        · rw [if_neg h] at h0 ⊢; omega
      · rcases List.mem_cons.mp q with q | q
        · by_cases h : m < n
          · rw [if_pos h] at h0 ⊢; omega
          · rw [if_neg h] at h0 ⊢; omega
        · exact h2 y (List.mem_cons_of_mem _ q)
def fMaxL : List D → Option D := f1L fun ns => (maxL ns).map D.int
def fMinL : List D → Option D := f1L fun ns => (minL ns).map D.int
def fSum : List D → Option D := f1L fun ns => some (.int ns.sum)
def fAll : List D → Option D := f1B fun bs => some (.bl (bs.all id))
def fAny : List D → Option D := f1B fun bs => some (.bl (bs.any id))
section
variable {c : Ctx}
theorem ans_len {K : PySem.W.Frag} (hK : c.E.K = K) : AnsL c (fun xs H Q => ∃ x n, xs = [x] ∧ LenV K x H n ∧ Q (.int n) H) fLen := fun H ds d vs Q h hf => by
  unfold fLen at hf
  split at hf
  · rename_i z
    obtain ⟨v, rfl, h1⟩ := rs1 h
    unfold Rs at h1
    subst h1
    cases hz : decide (z.length ≤ sizeLine) with
    | false => rw [hz] at hf; cases hf
    | true =>
      rw [hz] at hf
      cases hf
      exact ⟨rfl, fun k => ⟨_, z.length, rfl, ⟨of_decide_eq_true hz, rfl⟩, k _ (by unfold Rs; rfl)⟩⟩
  · rename_i d0 _
    obtain ⟨v, rfl, h1⟩ := rs1 h
    cases hs : seqD d0 with
    | none => rw [hs] at hf; cases hf
    | some es =>
      rw [hs] at hf
      cases hf
      obtain ⟨a, xs, rfl, h2, h3⟩ := seq_at h1 hs
      rw [hK] at h2
      exact ⟨rfl, fun k => ⟨_, es.length, rfl, h2.imp (fun q => ⟨xs, q, RsL.length h3⟩) fun q => ⟨xs, q, RsL.length h3⟩, k _ (by unfold Rs; rfl)⟩⟩
  · cases hf
theorem ans_abs : AnsL c (fun xs H Q => ∃ i, xs = [.int i] ∧ Q (.int (if i < 0 then -i else i)) H) fAbs := fun H ds d vs Q h hf => by
  unfold fAbs at hf
  split at hf
  · cases hf
    obtain ⟨v, rfl, h1⟩ := rs1 h
    unfold Rs at h1
    subst h1
    exact ⟨rfl, fun k => ⟨_, rfl, k _ (by unfold Rs; rfl)⟩⟩
  · cases hf
theorem ans_max2 : AnsL c (fun xs H Q => ∃ i j, xs = [.int i, .int j] ∧ Q (.int (if j > i then j else i)) H) fMax2 := fun H ds d vs Q h hf => by
  unfold fMax2 at hf
  split at hf
  · cases hf
    obtain ⟨v, w, rfl, h1, h2⟩ := rs2 h
    unfold Rs at h1 h2
    subst h1 h2
    exact ⟨rfl, fun k => ⟨_, _, rfl, k _ (by unfold Rs; rfl)⟩⟩
  · cases hf
theorem ans_min2 : AnsL c (fun xs H Q => ∃ i j, xs = [.int i, .int j] ∧ Q (.int (if j < i then j else i)) H) fMin2 := fun H ds d vs Q h hf => by
  unfold fMin2 at hf
  split at hf
  · cases hf
    obtain ⟨v, w, rfl, h1, h2⟩ := rs2 h
    unfold Rs at h1 h2
    subst h1 h2
    exact ⟨rfl, fun k => ⟨_, _, rfl, k _ (by unfold Rs; rfl)⟩⟩
  · cases hf
theorem ans_int : AnsL c (fun xs H Q => (∃ i, xs = [.int i] ∧ Q (.int i) H) ∨ ∃ k, xs = [.bl k] ∧ Q (.int (if k then 1 else 0)) H) fInt := fun H ds d vs Q h hf => by
  unfold fInt at hf
  split at hf
  · cases hf
    obtain ⟨v, rfl, h1⟩ := rs1 h
    unfold Rs at h1
    subst h1
    exact ⟨rfl, fun k => .inl ⟨_, rfl, k _ (by unfold Rs; rfl)⟩⟩
  · cases hf
    obtain ⟨v, rfl, h1⟩ := rs1 h
    unfold Rs at h1
    subst h1
    exact ⟨rfl, fun k => .inr ⟨_, rfl, k _ (by unfold Rs; rfl)⟩⟩
  · cases hf
theorem ints_at {E : Ev} {H : Hp} {d : D} {v : V} {ns : List Int} (h : Rs E H d v) (e : lstD d = some (ns.map D.int)) : ∃ a, v = .ref a ∧ SqL E.K H a (ns.map V.int) := by
  obtain ⟨a, xs, rfl, h2, h3⟩ := lst_at h e
  rw [RsL.ints h3] at h2
  exact ⟨a, rfl, h2⟩
theorem ans_sum {K : PySem.W.Frag} (hK : c.E.K = K) : AnsL c (rSum K) fSum := fun H ds d vs Q h hf => by
  obtain ⟨d0, es, ns, rfl, h1, rfl, h2⟩ := f1L_some hf
  cases h2
  obtain ⟨v, rfl, h3⟩ := rs1 h
  obtain ⟨a, rfl, h4⟩ := ints_at h3 h1
  exact ⟨rfl, fun k => ⟨a, ns, rfl, hK ▸ h4, k _ (by unfold Rs; rfl)⟩⟩
theorem ans_maxL {K : PySem.W.Frag} (hK : c.E.K = K) : AnsL c (rMax K) fMaxL := fun H ds d vs Q h hf => by
  obtain ⟨d0, es, ns, rfl, h1, rfl, h2⟩ := f1L_some hf
  obtain ⟨v, rfl, h3⟩ := rs1 h
  obtain ⟨a, rfl, h4⟩ := ints_at h3 h1
  cases ns with
  | nil => cases h2
  | cons n ns =>
    cases h2
    refine ⟨rfl, fun k => ⟨a, n :: ns, rfl, hK ▸ h4, by simp, fun m hm hy => ?_⟩⟩
    obtain ⟨g1, g2⟩ := maxL_go ns n
    have : m = ns.foldl (fun a b => if b > a then b else a) n := Int.le_antisymm (g2 m hm) (hy _ g1)
    rw [this]
    exact k _ (by unfold Rs; rfl)
theorem ans_minL {K : PySem.W.Frag} (hK : c.E.K = K) : AnsL c (rMin K) fMinL := fun H ds d vs Q h hf => by
  obtain ⟨d0, es, ns, rfl, h1, rfl, h2⟩ := f1L_some hf
  obtain ⟨v, rfl, h3⟩ := rs1 h
  obtain ⟨a, rfl, h4⟩ := ints_at h3 h1
  cases ns with
  | nil => cases h2
  | cons n ns =>
    cases h2
    refine ⟨rfl, fun k => ⟨a, n :: ns, rfl, hK ▸ h4, by simp, fun m hm hy => ?_⟩⟩
    obtain ⟨g1, g2⟩ := minL_go ns n
    have : m = ns.foldl (fun a b => if b < a then b else a) n := Int.le_antisymm (hy _ g1) (g2 m hm)
    rw [this]
    exact k _ (by unfold Rs; rfl)
theorem ans_all {K : PySem.W.Frag} (hK : c.E.K = K) : AnsL c (rAll K) fAll := fun H ds d vs Q h hf => by
  obtain ⟨d0, es, ns, rfl, h1, rfl, h2⟩ := f1B_some hf
  cases h2
  obtain ⟨v, rfl, h3⟩ := rs1 h
  obtain ⟨a, xs, rfl, h4, h5⟩ := lst_at h3 h1
  rw [RsL.bls h5] at h4
  exact ⟨rfl, fun k => ⟨a, ns, rfl, hK ▸ h4, k _ (by unfold Rs; rfl)⟩⟩
theorem ans_any {K : PySem.W.Frag} (hK : c.E.K = K) : AnsL c (rAny K) fAny := fun H ds d vs Q h hf => by
  obtain ⟨d0, es, ns, rfl, h1, rfl, h2⟩ := f1B_some hf
  cases h2
  obtain ⟨v, rfl, h3⟩ := rs1 h
  obtain ⟨a, xs, rfl, h4, h5⟩ := lst_at h3 h1
  rw [RsL.bls h5] at h4
  exact ⟨rfl, fun k => ⟨a, ns, rfl, hK ▸ h4, k _ (by unfold Rs; rfl)⟩⟩
end
/-! ### list(x), sorted(x) -/
def gList : List D → Option (List D)
  | [d] => seqD d
  | _ => none
theorem ans_list {c : Ctx} {K : PySem.W.Frag} (hK : c.E.K = K) : AnsN c (fun xs H Q => ∃ p ys, xs = [.ref p] ∧ (SqL K H p ys ∨ SqT K H p ys) ∧ ∀ l, H l = none → Q (.ref l) (upd H l (.lst ys))) gList := fun h H ds es vs Q e hs hf k => by
  unfold gList at hf
  split at hf
  · obtain ⟨v, rfl, h3⟩ := rs1 hs
    obtain ⟨a, xs, rfl, h4, h5⟩ := seq_at h3 hf
    refine ⟨a, xs, rfl, hK ▸ h4.imp (fun q => e.seql q) (fun q => e.seqt q), fun l hl => k l xs hl h5⟩
  · cases hf
/-- ints in order -/
def srtI (ns : List Int) : List Int := ns.mergeSort fun a b => decide (a ≤ b)
theorem srtI_perm (ns : List Int) : (srtI ns).Perm ns := List.mergeSort_perm _ _
theorem srtI_sorted (ns : List Int) : (srtI ns).Pairwise (· ≤ ·) := by
  have h := List.pairwise_mergeSort (le := fun a b : Int => decide (a ≤ b)) (fun a b c h1 h2 => decide_eq_true (Int.le_trans (of_decide_eq_true h1) (of_decide_eq_true h2))) (fun a b => by
    rcases Int.le_total a b with q | q
    · simp [q]
    · simp [q]) ns
  exact h.imp fun q => of_decide_eq_true q
theorem srtI_uniq {ns ms : List Int} (p : ms.Perm ns) (s : ms.Pairwise (· ≤ ·)) : ms = srtI ns :=
  List.Perm.eq_of_pairwise (le := (· ≤ ·)) (fun a b _ _ h1 h2 => Int.le_antisymm h1 h2) s (srtI_sorted ns) (p.trans (srtI_perm ns).symm)
def lexLe (a b : Int × Int) : Bool := decide (a.1 < b.1 ∨ (a.1 = b.1 ∧ a.2 ≤ b.2))
def srtP (ps : List (Int × Int)) : List (Int × Int) := ps.mergeSort lexLe
theorem lex_trans (a b c : Int × Int) (h1 : lexLe a b = true) (h2 : lexLe b c = true) : lexLe a c = true := by
  unfold lexLe at *
  have := of_decide_eq_true h1
  have := of_decide_eq_true h2
  exact decide_eq_true (by omega)
theorem lex_total (a b : Int × Int) : (lexLe a b || lexLe b a) = true := by
  unfold lexLe
  by_cases h : a.1 < b.1 ∨ (a.1 = b.1 ∧ a.2 ≤ b.2)
  · rw [decide_eq_true h]; rfl
  · rw [decide_eq_false h, decide_eq_true (by omega)]; rfl
theorem srtP_perm (ns : List (Int × Int)) : (srtP ns).Perm ns := List.mergeSort_perm _ _
theorem srtP_sorted (ns : List (Int × Int)) : (srtP ns).Pairwise fun a b => lexLe a b = true := List.pairwise_mergeSort lex_trans lex_total ns
theorem srtP_uniq {ns ms : List (Int × Int)} (p : ms.Perm ns) (s : ms.Pairwise fun a b => lexLe a b = true) : ms = srtP ns :=
  List.Perm.eq_of_pairwise (le := fun a b => lexLe a b = true) (fun a b _ _ h1 h2 => by
    unfold lexLe at h1 h2
    have h3 := of_decide_eq_true h1
    have h4 := of_decide_eq_true h2
    exact Prod.ext (by omega) (by omega)) s (srtP_sorted ns) (p.trans (srtP_perm ns).symm)
def pairsD : List D → Option (List (Int × Int))
  | [] => some []
  | .tup [.int a, .int b] :: ds => (pairsD ds).map ((a, b) :: ·)
  | _ :: _ => none
def pairD (q : Int × Int) : D := .tup [.int q.1, .int q.2]
theorem pairsD_eq : ∀ {ds : List D} {ns : List (Int × Int)}, pairsD ds = some ns → ds = ns.map pairD
  | [], ns, h => by cases h; rfl
  | d :: ds, ns, h => by
    unfold pairsD at h
    split at h
    · rename_i e; cases e
    · rename_i a b ds' e
      cases e
      cases hr : pairsD ds with
      | none => rw [hr] at h; cases h
      | some ms =>
        rw [hr] at h
        cases h
        rw [pairsD_eq hr]
        rfl
    · cases h
def gSort : List D → Option (List D)
  | [.tup ds] => (intsD ds).map fun ns => (srtI ns).map D.int
  | [d] => (lstD d).bind fun ds => match intsD ds with
    | some ns => some ((srtI ns).map D.int)
    | none => match pairsD ds with
      | some ps => some ((srtP ps).map pairD)
      | none => none
  | _ => none
theorem RsL.mem {E : Ev} {H : Hp} : ∀ {ds : List D} {vs : List V} {v : V}, RsL E H ds vs → v ∈ vs → ∃ d ∈ ds, Rs E H d v
  | [], vs, v, h, hv => by
    unfold RsL at h
    subst h
    cases hv
  | d :: ds, vs, v, h, hv => by
    unfold RsL at h
    obtain ⟨w, r, rfl, h2, h3⟩ := h
    rcases List.mem_cons.mp hv with q | q
    · exact ⟨d, List.mem_cons_self, q ▸ h2⟩
    · obtain ⟨d', h4, h5⟩ := RsL.mem h3 q
      exact ⟨d', List.mem_cons_of_mem _ h4, h5⟩
theorem pair_at {E : Ev} {H : Hp} {q : Int × Int} {v : V} (h : Rs E H (pairD q) v) : ∃ t, v = .ref t ∧ H t = some (.tup [.int q.1, .int q.2]) := by
  unfold pairD Rs at h
  obtain ⟨a, xs, rfl, h2, h3⟩ := h
  obtain ⟨v, w, rfl, h4, h5⟩ := rs2 h3
  unfold Rs at h4 h5
  subst h4 h5
  rcases h2 with h2 | ⟨h2, _⟩
  · exact ⟨a, rfl, h2⟩
  · cases h2
/-- a way to tell a pair's ints from its place -/
noncomputable def pk (H : Hp) (v : V) : Int × Int := match v with
  | .ref t => match H t with
    | some (.tup [.int a, .int b]) => (a, b)
    | _ => (0, 0)
  | _ => (0, 0)
theorem pk_at {E : Ev} {H : Hp} {q : Int × Int} {v : V} (h : Rs E H (pairD q) v) : pk H v = q := by
  obtain ⟨t, rfl, h2⟩ := pair_at h
  simp only [pk, h2]
theorem pk_map {E : Ev} {H : Hp} : ∀ {ps : List (Int × Int)} {vs : List V}, RsL E H (ps.map pairD) vs → vs.map (pk H) = ps
  | [], vs, h => by
    have h' : RsL E H [] vs := h
    unfold RsL at h'
    subst h'
    rfl
  | p :: ps, vs, h => by
    have h' : RsL E H (pairD p :: ps.map pairD) vs := h
    unfold RsL at h'
    obtain ⟨v, r, rfl, h2, h3⟩ := h'
    rw [List.map_cons, pk_at h2, pk_map h3]
theorem of_pk {E : Ev} {H : Hp} {qs : List (Int × Int)} : ∀ {ps : List (Int × Int)} {vs : List V}, (∀ v ∈ vs, Rs E H (pairD (pk H v)) v) → vs.map (pk H) = ps → RsL E H (ps.map pairD) vs
  | [], vs, h, e => by
    have : vs = [] := List.map_eq_nil_iff.mp e
    subst this
    exact .nil
  | p :: ps, vs, h, e => by
    cases vs with
    | nil => cases e
    | cons v vs =>
      rw [List.map_cons] at e
      obtain ⟨e1, e2⟩ := List.cons.inj e
      have h1 := h v List.mem_cons_self
      rw [e1] at h1
      exact .cons h1 (of_pk (qs := qs) (fun w hw => h w (List.mem_cons_of_mem _ hw)) e2)
theorem lex_of {a b : Int × Int} (h : SrtO.lexB b a = false) : lexLe a b = true := by
  have := SrtO.lexB_no.mp h
  unfold lexLe
  exact decide_eq_true (by omega)
theorem ans_sort {c : Ctx} {K : PySem.W.Frag} (hK : c.E.K = K) : AnsN c (fun xs H Q => (rSortedI K xs H Q ∨ rSortedPO K xs H Q) ∨ rSortedTI K xs H Q) gSort := fun h H ds es vs Q e hs hf k => by
  unfold gSort at hf
  split at hf
  · rename_i ds
    obtain ⟨v, rfl, h3⟩ := rs1 hs
    unfold Rs at h3
    obtain ⟨a, xs, rfl, h4, h5⟩ := h3
    obtain ⟨ns, hi, rfl⟩ := Option.map_eq_some_iff.mp hf
    have := intsD_eq hi
    subst this
    rw [RsL.ints h5] at h4
    refine .inr ⟨a, ns, rfl, hK ▸ e.seqt h4.sq, fun ns' p hp hw hH => ?_⟩
    rw [srtI_uniq hp hw]
    exact k p _ hH .of_ints
  · rename_i d0 _
    obtain ⟨v, rfl, h3⟩ := rs1 hs
    cases hl : lstD d0 with
    | none => rw [hl] at hf; cases hf
    | some ds =>
      rw [hl, Option.bind_some] at hf
      obtain ⟨a, xs, rfl, h4, h5⟩ := lst_at h3 hl
      cases hi : intsD ds with
      | some ns =>
        rw [hi] at hf
        cases hf
        have := intsD_eq hi
        subst this
        rw [RsL.ints h5] at h4
        refine .inl (.inl ⟨a, ns, rfl, hK ▸ e.seql h4, fun ns' p hp hw hH => ?_⟩)
        rw [srtI_uniq hp hw]
        exact k p _ hH .of_ints
      | none =>
        rw [hi] at hf
        cases hq : pairsD ds with
        | none => rw [hq] at hf; cases hf
        | some ps =>
          rw [hq] at hf
          cases hf
          have := pairsD_eq hq
          subst this
          have hx : ∀ x ∈ xs, Rs c.E h (pairD (pk h x)) x := fun x hx => by
            obtain ⟨d, hd, r⟩ := RsL.mem h5 hx
            obtain ⟨q, _, rfl⟩ := List.mem_map.mp hd
            rw [pk_at r]
            exact r
          refine .inl (.inr ⟨a, xs, pk h, rfl, hK ▸ e.seql h4, fun x hx' => ?_, fun ys p hsrt hstb hH => k p ys hH ?_⟩)
          · obtain ⟨t, rfl, ht⟩ := pair_at (Rs.mono e (hx x hx'))
            exact ⟨t, rfl, ht⟩
          · refine of_pk (qs := []) (fun y hy => hx y (hstb.perm.mem_iff.mp hy)) ?_
            have e1 : xs.map (pk h) = ps := pk_map h5
            have pm : (ys.map (pk h)).Perm ps := by rw [← e1]; exact hstb.perm.map _
            exact srtP_uniq pm (List.pairwise_map.mpr (hsrt.imp fun q => lex_of q))
  · cases hf
end Z

/-! Z19: slices, lists joined, repeated; tuple(x); list(range(..)). -/
namespace Z
open PySem PySem.Spec PyProof.Rows L2
def tQ (c : Ctx) (X : XK) (mods : List Nat) (m : M (Option Int)) : TO := fun σ H Q => ∃ G S As τ, Real c G S As τ σ H ∧ fin c X (m S) fun o S' =>
  ∀ G' As' H', Real c G' S' As' τ σ H' → Post mods S S' As As' G G' H H' → Q o H'
def mPart (m : M D) : M (Option Int) := fun S => (m S).bd fun d S => match d with
  | .int i => .ok (some i) S
  | _ => .bad
def cutD (ds : List D) (lo hi : Option Int) : List D := (ds.drop (HT.sIx ds.length 0 lo)).take (HT.sIx ds.length ds.length hi - HT.sIx ds.length 0 lo)
def mSl (md : Bool) (m : M D) (ml mh : M (Option Int)) : M O := fun S => (m S).bd fun d S1 => (ml S1).bd fun lo S2 => (mh S2).bd fun hi S3 => match lstD d with
  | some ds => oo (mkL md (cutD ds lo hi)) S3
  | none => .bad
theorem RsL.drop {E : Ev} {H : Hp} : ∀ {ds : List D} {vs : List V} (n : Nat), RsL E H ds vs → RsL E H (ds.drop n) (vs.drop n)
  | ds, vs, 0, h => h
  | [], vs, n + 1, h => by
    unfold RsL at h
    subst h
    exact .nil
  | d :: ds, vs, n + 1, h => by
    unfold RsL at h
    obtain ⟨v, r, rfl, h2, h3⟩ := h
    exact RsL.drop n h3
theorem RsL.take {E : Ev} {H : Hp} : ∀ {ds : List D} {vs : List V} (n : Nat), RsL E H ds vs → RsL E H (ds.take n) (vs.take n)
  | ds, vs, 0, h => by
    show RsL E H [] []
    exact .nil
  | [], vs, n + 1, h => by
    unfold RsL at h
    subst h
    exact .nil
  | d :: ds, vs, n + 1, h => by
    unfold RsL at h
    obtain ⟨v, r, rfl, h2, h3⟩ := h
    exact .cons h2 (RsL.take n h3)
theorem RsL.cut {E : Ev} {H : Hp} {ds : List D} {vs : List V} (lo hi : Option Int) (h : RsL E H ds vs) : RsL E H (cutD ds lo hi) (cutV vs lo hi) := by
  unfold cutD cutV
  rw [RsL.length h]
  exact RsL.take _ (RsL.drop _ h)
theorem RsL.rev {E : Ev} {H : Hp} : ∀ {ds : List D} {vs : List V}, RsL E H ds vs → RsL E H ds.reverse vs.reverse
  | [], vs, h => by
    unfold RsL at h
    subst h
    exact .nil
  | d :: ds, vs, h => by
    unfold RsL at h
    obtain ⟨v, r, rfl, h2, h3⟩ := h
    rw [List.reverse_cons, List.reverse_cons]
    exact RsL.append (RsL.rev h3) (.cons h2 .nil)
theorem RsL.rep {E : Ev} {H : Hp} {ds : List D} {vs : List V} (h : RsL E H ds vs) : ∀ n : Nat, RsL E H (List.replicate n ds).flatten (List.replicate n vs).flatten
  | 0 => .nil
  | n + 1 => by
    rw [List.replicate_succ, List.replicate_succ]
    exact RsL.append h (RsL.rep h n)
section
variable {X : Cx} {c : Ctx} {W : XK} {mods m1 m2 m3 : List Nat} {md md1 md2 md3 : Bool} {e a b o : Expr} {es : List Expr} {pos apos cpos tpos p p2 p3 : Pos} {m ma mb : M D} {ml mh : M (Option Int)} {x : Str} {lo hi : Option Expr}
theorem POw {e : Option Expr} {t t' : TO} (h : PO X e t) (w : ∀ σ H Q, t' σ H Q → t σ H Q) : PO X e t' := ⟨fun pins s σ H Q I q => h.run pins s σ H Q I (w σ H Q q)⟩
theorem zP0 : PO X none (tQ c W [] (mC none)) := POw po_none fun σ H Q ⟨G, S, As, τ, R, q⟩ => q G As H R Post.refl
theorem zP1 (h : PE X e (tE c W md mods m)) : PO X (some e) (tQ c W mods (mPart m)) := POw (po_some h) fun σ H Q ⟨G, S, As, τ, R, q⟩ => by
  refine ⟨G, S, As, τ, R, fin_mono (fin_bd q) fun d S1 e1 k => ?_⟩
  intro v G1 As1 H1 R1 P1 r1
  cases d with
  | int i =>
    unfold Rs at r1
    exact ⟨i, r1, k G1 As1 H1 R1 P1⟩
  | _ => exact k.elim
theorem rs_later2 {G1 G2 H1 H2 : Hp} {S1 S2 : List Sl} {As1 As2 : Nat → List Addr} {d : D} {v : V} {n1 n2 : List Nat} (hm : (md1 || (n1.isEmpty && n2.isEmpty)) = true) (P : Post (n1 ++ n2) S1 S2 As1 As2 G1 G2 H1 H2) (h : Rs c.E (hp md1 G1 H1) d v) : Rs c.E (hp md1 G2 H2) d v := by
  refine rs_later (m2 := n1 ++ n2) ?_ P h
  cases md1 with
  | true => rfl
  | false =>
    cases n1 <;> cases n2 <;> first | rfl | cases hm
theorem zSl (h : PE X e (tE c W md m1 m)) (hl : PO X lo (tQ c W m2 ml)) (hh : PO X hi (tQ c W m3 mh)) (hm : (md || (m2.isEmpty && m3.isEmpty)) = true := by rfl) (hK : c.E.K = X.K) : PE X (.Subscript e (.Slice lo hi none p2) pos) (tO c W (m1 ++ (m2 ++ m3)) (mSl md m ml mh)) :=
  PEw (pe_slice sl_list h hl hh) fun σ H Q ⟨G, S, As, τ, R, q⟩ => by
    refine ⟨G, S, As, τ, R, fin_mono (fin_bd q) fun d S1 e1 k => ?_⟩
    intro v G1 As1 H1 R1 P1 r1
    refine ⟨G1, S1, As1, τ, R1, fin_mono (fin_bd k) fun l S2 e2 k2 => ?_⟩
    intro G2 As2 H2 R2 P2
    refine ⟨G2, S2, As2, τ, R2, fin_mono (fin_bd k2) fun u S3 e3 k3 => ?_⟩
    intro G3 As3 H3 R3 P3
    have P23 := P2.trans P3
    have r3 := rs_later2 hm P23 r1
    cases hd : lstD d with
    | none => rw [hd] at k3; exact k3.elim
    | some ds =>
      rw [hd] at k3
      simp only at k3
      obtain ⟨a, xs, rfl, h4, h5⟩ := lst_at r3 hd
      cases ho : mkL md (cutD ds l u) with
      | none => rw [ho] at k3; exact k3.elim
      | some o =>
        rw [ho] at k3
        refine ⟨a, xs, rfl, hK ▸ (hp_ex (md := md) R3.exG).seql h4, fun p hp0 => ?_⟩
        exact new_list (md := md) R3 (P1.trans P23) hp0 (h5.cut l u) ho k3
/-- e[::-1] -/
def gRev : List D → Option (List D)
  | [d] => (lstD d).map List.reverse
  | _ => none
def m1N (md : Bool) (f : D → Option (List D)) (m : M D) : M O := m1x (fun d => (f d).bind (mkL md)) m
def dRevL (d : D) : Option (List D) := (lstD d).map List.reverse
theorem zRev {k : Nat} {q1 q2 q3 : Pos} (hK : c.E.K = X.K) (h : PE X e (tE c W md mods m)) : PE X (.Subscript e (.Slice none none (some (.UnaryOp .USub (.Constant (.int 1) k q1) q2)) q3) pos) (tO c W mods (m1N md dRevL m)) := PEw (pe_revL h) fun σ H Q ⟨G, S, As, τ, R, q⟩ => by
  refine ⟨G, S, As, τ, R, fin_mono (fin_bd q) fun d S1 e1 k => ?_⟩
  intro v G1 As1 H1 R1 P1 r1
  have k' : fin c W (oo ((dRevL d).bind (mkL md)) S1) _ := k
  unfold dRevL at k'
  cases hd : lstD d with
  | none => rw [hd] at k'; exact k'.elim
  | some ds =>
    rw [hd] at k'
    have k2 : fin c W (oo (mkL md ds.reverse) S1) _ := k'
    obtain ⟨a, xs, rfl, h4, h5⟩ := lst_at r1 hd
    cases ho : mkL md ds.reverse with
    | none => rw [ho] at k2; exact k2.elim
    | some o =>
      rw [ho] at k2
      exact ⟨a, xs, rfl, hK ▸ (hp_ex (md := md) R1.exG).seql h4, fun p hp0 => new_list (md := md) R1 P1 hp0 h5.rev ho k2⟩
/-- two lists: a new one; an own kind of binary operation -/
def AnsN2 (c : Ctx) (r : R2) (f : D → D → Option (List D)) : Prop := ∀ (h H : Hp) (dx dy : D) (es : List D) (x y : V) (Q : VK), Ex h H → Rs c.E h dx x → Rs c.E h dy y → f dx dy = some es →
  (∀ p xs, H p = none → RsL c.E h es xs → Q (.ref p) (upd H p (.lst xs))) → r x y H Q
def m2N (md : Bool) (f : D → D → Option (List D)) (ma mb : M D) : M O := m2x (fun x y => (f x y).bind (mkL md)) ma mb
theorem w_opN {r : R2} {f : D → D → Option (List D)} (hr : AnsN2 c r f) (hm : (md || m2.isEmpty) = true) (σ : L2.St) (H : Hp) (Q : VK) (h : tO c W (m1 ++ m2) (m2N md f ma mb) σ H Q) : tOp r (tE c W md m1 ma) (tE c W md m2 mb) σ H Q := by
  obtain ⟨G, S, As, τ, R, q⟩ := h
  refine ⟨G, S, As, τ, R, fin_mono (fin_bd q) fun dx S1 e1 k => ?_⟩
  intro v G1 As1 H1 R1 P1 r1
  refine ⟨G1, S1, As1, τ, R1, fin_mono (fin_bd k) fun dy S2 e2 k2 => ?_⟩
  intro u G2 As2 H2 R2 P2 r2
  have k' : fin c W (oo ((f dx dy).bind (mkL md)) S2) _ := k2
  cases hf : f dx dy with
  | none => rw [hf] at k'; exact k'.elim
  | some es =>
    rw [hf, Option.bind_some] at k'
    cases ho : mkL md es with
    | none => rw [ho] at k'; exact k'.elim
    | some o =>
      rw [ho] at k'
      exact hr (hp md G2 H2) H2 dx dy es v u Q (hp_ex R2.exG) (rs_later hm P2 r1) r2 hf fun p xs hp0 rx => new_list R2 (P1.trans P2) hp0 rx ho k'
def lstH : D → Option (List D)
  | .lst ds => some ds
  | _ => none
def dCat : D → D → Option (List D)
  | .lst xs, .lst ys => match decide (xs.length + ys.length ≤ sizeLine) with
    | true => some (xs ++ ys)
    | false => none
  | _, _ => none
def dRep : D → D → Option (List D)
  | .lst xs, .int k => match decide (-(2 ^ 63) ≤ k ∧ k < 2 ^ 63 ∧ xs.length * k.toNat ≤ sizeLine) with
    | true => some (List.replicate k.toNat xs).flatten
    | false => none
  | _, _ => none
theorem ans_cat : AnsN2 c rCat dCat := fun h H dx dy es x y Q e rx ry hf k => by
  unfold dCat at hf
  split at hf
  · rename_i xs ys
    cases hd : decide (xs.length + ys.length ≤ sizeLine) with
    | false => rw [hd] at hf; cases hf
    | true =>
      rw [hd] at hf
      cases hf
      unfold Rs at rx ry
      obtain ⟨a, us, rfl, h2, h3⟩ := rx
      obtain ⟨b, ws, rfl, h4, h5⟩ := ry
      refine ⟨a, b, us, ws, rfl, rfl, e.hard h2 rfl, e.hard h4 rfl, by rw [← RsL.length h3, ← RsL.length h5]; exact of_decide_eq_true hd, fun p hp0 => k p _ hp0 (RsL.append h3 h5)⟩
  · cases hf
theorem ans_rep : AnsN2 c rRep dRep := fun h H dx dy es x y Q e rx ry hf k => by
  unfold dRep at hf
  split at hf
  · rename_i xs n
    cases hd : decide (-(2 ^ 63) ≤ n ∧ n < 2 ^ 63 ∧ xs.length * n.toNat ≤ sizeLine) with
    | false => rw [hd] at hf; cases hf
    | true =>
      rw [hd] at hf
      cases hf
      unfold Rs at rx ry
      obtain ⟨a, us, rfl, h2, h3⟩ := rx
      have hd' := of_decide_eq_true hd
      exact ⟨a, n, us, rfl, ry, e.hard h2 rfl, hd'.1, hd'.2.1, by rw [← RsL.length h3]; exact hd'.2.2, fun p hp0 => k p _ hp0 (h3.rep _)⟩
  · cases hf
theorem zCat (ha : PE X a (tE c W md m1 ma)) (hb : PE X b (tE c W md m2 mb)) (hm : (md || m2.isEmpty) = true := by rfl) : PE X (.BinOp a .Add b pos) (tO c W (m1 ++ m2) (m2N md dCat ma mb)) := PEw (pe_op op_cat ha hb) (w_opN ans_cat hm)
theorem zRep (ha : PE X a (tE c W md m1 ma)) (hb : PE X b (tE c W md m2 mb)) (hm : (md || m2.isEmpty) = true := by rfl) : PE X (.BinOp a .Mult b pos) (tO c W (m1 ++ m2) (m2N md dRep ma mb)) := PEw (pe_op op_rep ha hb) (w_opN ans_rep hm)
/-- tuple(x) -/
def dTupOf : D → Option O
  | .lst ds => some (.tup (ds.map .sh))
  | .fls ds => some (.tup (ds.map .sh))
  | .tup ds => some (.sh (.tup ds))
  | _ => none
theorem new_tup {G G1 H1 H0 : Hp} {S S1 : List Sl} {As As1 : Nat → List Addr} {τ : List V} {σ : L2.St} {es : List D} {xs : List V} {p : Addr} {Q : VK} (R1 : Real c G1 S1 As1 τ σ H1) (P1 : Post mods S S1 As As1 G G1 H0 H1) (hp0 : H1 p = none)
    (r : RsL c.E G1 es xs)
    (k : ∀ v A G' As' H', Real c G' S1 As' τ σ H' → Post mods S S1 As As' G G' H0 H' → Ro c.E G' H' (.tup (es.map .sh)) v A → New c G' As' A → Frs mods As H0 A → Q v H') : Q (.ref p) (upd H1 p (.tup xs)) := by
  have R2 := R1.keep (Keep.new (o := .tup xs) hp0)
  have P2 : Post mods S1 S1 As1 As1 G1 G1 H1 (upd H1 p (.tup xs)) := Post.of_keep (Ex.refl _) (Keep.new hp0) fun _ _ => rfl
  refine k (.ref p) [p] G1 As1 _ R2 ((P1.trans P2).mono fun j hj => (List.mem_append.mp hj).elim id id) ?_ (R1.new1 hp0) (Frs.one P1 hp0)
  unfold Ro
  exact ⟨p, xs, [], rfl, rfl, upd_same, RoL.sh r⟩
theorem zTupOf (hK : c.E.K = X.K) (hg : Gl X "tuple") (hmg : X.mg "tuple" = none) (h : PE X e (tE c W true mods m)) (na : starEach [e] X.env = (false, eval e X.env) :: starEach [] X.env := by rfl) : PE X (.Call (.Name "tuple" p) [e] [] pos) (tO c W mods (m1x dTupOf m)) :=
  PEw (pe_tupleOf hg hmg h na) fun σ H Q ⟨G, S, As, τ, R, q⟩ => by
    refine ⟨G, S, As, τ, R, fin_mono (fin_bd q) fun d S1 e1 k => ?_⟩
    intro v G1 As1 H1 R1 P1 r1
    cases d with
    | lst ds =>
      obtain ⟨a, xs, rfl, h4, h5⟩ := lst_at (d := .lst ds) r1 rfl
      exact .inl ⟨a, xs, rfl, hK ▸ R1.exG.seql h4, fun p hp0 => new_tup R1 P1 hp0 h5 k⟩
    | fls ds =>
      obtain ⟨a, xs, rfl, h4, h5⟩ := lst_at (d := .fls ds) r1 rfl
      exact .inl ⟨a, xs, rfl, hK ▸ R1.exG.seql h4, fun p hp0 => new_tup R1 P1 hp0 h5 k⟩
    | tup ds =>
      have r1' : Rs c.E G1 (.tup ds) v := r1
      unfold Rs at r1
      obtain ⟨a, xs, rfl, h4, h5⟩ := r1
      exact .inr ⟨a, xs, rfl, hK ▸ R1.exG.seqt h4.sq, k (.ref a) [] G1 As1 H1 R1 P1 (by unfold Ro; exact ⟨rfl, r1'⟩) New.nil (fun _ z => nomatch z)⟩
    | _ => exact k.elim
/-- range(..) as an argument -/
def rgD (a b : Int) : List D := (List.range (b - a).toNat).map fun i => D.int (a + (i : Nat))
theorem rgD_rs {E : Ev} {H : Hp} (a b : Int) : RsL E H (rgD a b) (rgV a b) := by
  have key : ∀ ns : List Nat, RsL E H (ns.map fun i => D.int (a + (i : Nat))) (ns.map fun i => V.int (a + (i : Nat))) := by
    intro ns
    induction ns with
    | nil => exact .nil
    | cons n ns ih => exact .cons (by unfold Rs; rfl) ih
  exact key _
def rgOk (a b : Int) : Bool := decide (-(2 ^ 62) ≤ a ∧ a < 2 ^ 62 ∧ -(2 ^ 62) ≤ b ∧ b < 2 ^ 62 ∧ (b - a).toNat ≤ 2 ^ 24)
theorem rgOk_ok {a b : Int} (h : rgOk a b = true) : RgOk a b := by
  unfold rgOk at h
  have h2 := of_decide_eq_true h
  exact h2
def dRg (x y : D) : Option (List D) := match x, y with
  | .int a, .int b => match rgOk a b with
    | true => some (rgD a b)
    | false => none
  | _, _ => none
theorem zLr1 (hc : X.calm = true) (hg : Gl X "list") (hmg : X.mg "list" = none) (hgr : Gl X "range") (hmr : X.mg "range" = none) (h : PE X e (tE c W true mods m))
    (na : starEach [e] X.env = (false, eval e X.env) :: starEach [] X.env := by rfl) (nb : starEach [.Call (.Name "range" p3) [e] [] p2] X.env = (false, eval (.Call (.Name "range" p3) [e] [] p2) X.env) :: starEach [] X.env := by rfl) : PE X (.Call (.Name "list" p) [.Call (.Name "range" p3) [e] [] p2] [] pos) (tO c W mods (m1N true (dRg (.int 0)) m)) :=
  PEw (pe_listRg hc hg hmg (prg_1 hgr hmr h na) nb) fun σ H Q ⟨G, S, As, τ, R, q⟩ => by
    refine ⟨G, S, As, τ, R, fin_mono (fin_bd q) fun d S1 e1 k => ?_⟩
    intro v G1 As1 H1 R1 P1 r1
    cases d with
    | int n =>
      unfold Rs at r1
      refine ⟨n, r1, ?_⟩
      have k' : fin c W (oo ((dRg (.int 0) (.int n)).bind (mkL true)) S1) _ := k
      unfold dRg at k'
      cases ho : rgOk 0 n with
      | false => simp only [ho] at k'; exact k'.elim
      | true =>
        simp only [ho] at k'
        exact ⟨rgOk_ok ho, fun q hq => new_list (md := true) R1 P1 hq (rgD_rs 0 n) rfl k'⟩
    | _ => exact k.elim
theorem zLr2 (hc : X.calm = true) (hg : Gl X "list") (hmg : X.mg "list" = none) (hgr : Gl X "range") (hmr : X.mg "range" = none) (ha : PE X a (tE c W true m1 ma)) (hb : PE X b (tE c W true m2 mb))
    (na : starEach [a, b] X.env = (false, eval a X.env) :: starEach [b] X.env := by rfl) (nb : starEach [b] X.env = (false, eval b X.env) :: starEach [] X.env := by rfl) (np : (backTo p2 (starEach [b] X.env)).any (·.1) = false := by rfl)
    (nc : starEach [.Call (.Name "range" p3) [a, b] [] p2] X.env = (false, eval (.Call (.Name "range" p3) [a, b] [] p2) X.env) :: starEach [] X.env := by rfl) : PE X (.Call (.Name "list" p) [.Call (.Name "range" p3) [a, b] [] p2] [] pos) (tO c W (m1 ++ m2) (m2N true dRg ma mb)) :=
  PEw (pe_listRg hc hg hmg (prg_2 hgr hmr ha hb na nb np) nc) fun σ H Q ⟨G, S, As, τ, R, q⟩ => by
    refine ⟨G, S, As, τ, R, fin_mono (fin_bd q) fun d S1 e1 k => ?_⟩
    intro v G1 As1 H1 R1 P1 r1
    refine ⟨G1, S1, As1, τ, R1, fin_mono (fin_bd k) fun d2 S2 e2 k2 => ?_⟩
    intro u G2 As2 H2 R2 P2 r2
    have k' : fin c W (oo ((dRg d d2).bind (mkL true)) S2) _ := k2
    unfold dRg at k'
    cases d with
    | int i =>
      cases d2 with
      | int j =>
        unfold Rs at r1 r2
        refine ⟨i, j, r1, r2, ?_⟩
        cases ho : rgOk i j with
        | false => simp only [ho] at k'; exact k'.elim
        | true =>
          simp only [ho] at k'
          exact ⟨rgOk_ok ho, fun q hq => new_list (md := true) R2 (P1.trans P2) hq (rgD_rs i j) rfl k'⟩
      | _ => exact k'.elim
    | _ => exact k'.elim
end
end Z

/-! Z20: comprehensions whose items are own; enumerate, zip; attributes set. -/
namespace Z
open PySem PySem.Spec PyProof.Rows L2
def cmpGoO (g : Tg) (t : M Bool) (e : M O) (vs : List Nat) : List D → List Sl → Out (List O)
  | [] => fun S => .ok [] S
  | d :: ds => fun S => match g d S with
    | none => .bad
    | some S1 => (t S1).bn fun b S2 => match b with
      | true => (e S2).bn fun x S3 => (cmpGoO g t e vs ds (wipeS S3 vs)).bn fun xs S4 => .ok (x :: xs) S4
      | false => cmpGoO g t e vs ds (wipeS S2 vs)
def mCompO (mi : M (List D)) (g : Tg) (t : M Bool) (e : M O) (vs : List Nat) : M O := fun S => (mi S).bd fun ds S1 => match decide (ds.length ≤ 16777216) && vs.all fun v => notOw S1[v]? with
  | true => (cmpGoO g t e vs ds (wipeS S1 vs)).bn fun xs S2 => .ok (.lst xs) (restS S1 S2 vs)
  | false => .bad
/-- nodes made on the way -/
structure Made (c : Ctx) (G : Hp) (As : Nat → List Addr) (mods : List Nat) (As1 : Nat → List Addr) (H1 : Hp) (D : Addr) (B : List Addr) : Prop where
  nd : B.Nodup
  h0 : ∀ b ∈ B, c.H0 b = none
  g : ∀ b ∈ B, G b = none
  out : ∀ b ∈ B, ∀ j, b ∉ As j
  fr : Frs mods As1 H1 B
  ne : D ∉ B
theorem Made.nil {c : Ctx} {G : Hp} {As : Nat → List Addr} {mods : List Nat} {As1 : Nat → List Addr} {H1 : Hp} {D : Addr} : Made c G As mods As1 H1 D [] :=
  ⟨List.nodup_nil, (fun _ z => nomatch z), (fun _ z => nomatch z), (fun _ z => nomatch z), (fun _ z => nomatch z), fun z => nomatch z⟩
theorem Made.new {c : Ctx} {G : Hp} {As : Nat → List Addr} {mods : List Nat} {As1 : Nat → List Addr} {H1 : Hp} {D : Addr} {B : List Addr} (m : Made c G As mods As1 H1 D B) : New c G As B := ⟨m.nd, m.h0, m.g, m.out⟩
section
variable {X : Cx} {c : Ctx} {W : XK} {mods m1 m2 m3 vs ts : List Nat} {elt tg iter : Expr} {mi : M (List D)} {g : Tg} {t : M Bool} {me : M O}
theorem w_compO (hv : ∀ v ∈ vs, v < X.N.length) (hio : ∀ v ∈ vs, v ∉ c.io) (hts : ∀ j ∈ ts, j ∈ vs) (σ : L2.St) (H : Hp) (Q : VK) (hl : σ.length = X.N.length) (h : tO c W (m1 ++ (m2 ++ m3)) (mCompO mi g t me vs) σ H Q) :
    tLc (tI c W m1 mi) (gT c ts g) (tT c E00 m2 t) (tO c E00 m3 me) vs σ H Q := by
  obtain ⟨G, S, As, τ, R, q⟩ := h
  have hv' : ∀ v ∈ vs, v < σ.length := fun v h => by rw [hl]; exact hv v h
  refine ⟨G, S, As, τ, R, fin_mono (fin_bd q) fun ds S1 e1 k => ?_⟩
  intro J G1 As1 H1 R1 P1 Wk D hD
  cases hc1 : decide (ds.length ≤ 16777216) && vs.all fun v => notOw S1[v]? with
  | false =>
    rw [hc1] at k
    exact k.elim
  | true =>
    rw [hc1] at k
    rw [Bool.and_eq_true, List.all_eq_true] at hc1
    have hlen : ds.length ≤ 16777216 := of_decide_eq_true hc1.1
    have hno := hc1.2
    obtain ⟨dH0, dG1, dA1⟩ := R1.fresh hD
    have Rw := R1.wipe hv' hio
    have Rw' : Real c G1 (wipeS S1 vs) (wipeA As1 vs) τ (wipe σ vs) (upd H1 D (.lst [])) := Rw.keep (Keep.new hD)
    have h0 : ∀ v ∈ vs, wipeA As1 vs v = [] := fun v h => if_pos h
    have hs0 : ∀ v ∈ vs, v < (wipeS S1 vs).length → (wipeS S1 vs)[v]? = some .no := fun v h hl => wipeS_in h (by rw [wipeS_len] at hl; exact hl)
    have k0 := fin_bn (W := W) k
    let St := fun (i : Nat) (n : Nat) (H2 : Hp) => ∃ G2 S2 As2 acc xs B, Real c G2 S2 As2 τ (wipe σ vs) H2 ∧ Ex G1 G2 ∧ Post (m2 ++ m3) (wipeS S1 vs) S2 (wipeA As1 vs) As2 G1 G2 H1 H2 ∧ H2 D = some (.lst xs) ∧ RoL c.E G2 H2 acc xs B ∧ Made c G2 As2 (m2 ++ m3) (wipeA As1 vs) H1 D B ∧ acc.length ≤ n ∧ G2 D = none ∧ (∀ j, D ∉ As2 j) ∧
        fin c W (cmpGoO g t me vs (ds.drop i) S2) (fun ys S3 => ∀ v A G' As' H', Real c G' (restS S1 S3 vs) As' τ σ H' → Post (m1 ++ (m2 ++ m3)) S (restS S1 S3 vs) As As' G G' H H' → Ro c.E G' H' (.lst (acc ++ ys)) v A → New c G' As' A → Frs (m1 ++ (m2 ++ m3)) As H A → Q v H')
    refine ⟨fun i m H2 => m = ds.length - i ∧ i ≤ ds.length ∧ St i i H2, ⟨ds.length, rfl, Nat.zero_le _, G1, wipeS S1 vs, wipeA As1 vs, [], [], [], Rw', Ex.refl _, ?_, upd_same, .nil, .nil, Nat.zero_le _, dG1, fun j z => ?_, ?_⟩, ?_⟩
    · exact Post.of_keep (Ex.refl _) (Keep.new hD) fun _ _ => rfl
    · unfold wipeA at z
      split at z
      · cases z
      · exact dA1 j z
    · exact fin_mono k0 fun ys S3 _ k1 => k1
    · rintro i m H2 ⟨rfl, hi, G2, S2, As2, acc, xs, B0, R2, x2, P2, hD2, ra, mB, la, dG2, dA2, k2⟩
      have x3 : Ex G1 H2 := x2.trans R2.exG
      by_cases hlt : i < ds.length
      · have ed : ∃ d, ds[i]? = some d ∧ ds.drop i = d :: ds.drop (i + 1) := ⟨ds[i], List.getElem?_eq_getElem hlt, List.drop_eq_getElem_cons hlt⟩
        refine .inr ⟨Wk.go i H2 x3 hlt, fun H3 => St (i + 1) (i + 1) H3, fun H3 q => ⟨ds.length - (i + 1), by omega, rfl, hlt, q⟩, fun x H3 y => ?_⟩
        obtain ⟨d, hd, edr⟩ := ed
        obtain ⟨kp, B, d', hd', nb, ndb, rs⟩ := Wk.yld i H2 x H3 x3 hlt y
        rw [hd] at hd'
        cases hd'
        have R3 := R2.seen kp nb ndb
        have r3 := rs G2 x2 R2.exG
        have nB : ∀ b ∈ B, G2 b = none := fun b hb => (R2.fresh (nb b hb)).2.1
        have DB : D ∉ B := fun z => by rw [nb D z] at hD2; cases hD2
        have x4 : Ex G2 (frz G2 H3 B) := frz_ex nB
        have dG3 : frz G2 H3 B D = none := by rw [frz_out DB]; exact dG2
        have tB : ∀ b ∈ B0, H2 b ≠ none := RoL.there ra
        have oB : ∀ b ∈ B0, b ∉ B := fun b hb z => tB b hb (nb b z)
        have P3 : Post (m2 ++ m3) (wipeS S1 vs) S2 (wipeA As1 vs) As2 G1 (frz G2 H3 B) H1 H3 := by
          have p := P2.trans (Post.of_keep (mods := []) (S := S2) (As := As2) x4 kp fun a h => frz_out fun z => h (nb a z))
          rw [List.append_nil] at p
          exact p
        refine ⟨frz G2 H3 B, S2, As2, τ, d, R3, r3, ?_⟩
        rw [edr] at k2
        have k3 : fin c W (match g d S2 with
          | none => .bad
          | some S1 => (t S1).bn fun b S2 => match b with
            | true => (me S2).bn fun x S3 => (cmpGoO g t me vs (ds.drop (i + 1)) (wipeS S3 vs)).bn fun xs S4 => .ok (x :: xs) S4
            | false => cmpGoO g t me vs (ds.drop (i + 1)) (wipeS S2 vs)) _ := k2
        cases hg : g d S2 with
        | none =>
          rw [hg] at k3
          exact k3.elim
        | some S3 =>
          rw [hg] at k3
          intro σ3 As3 R4 C4
          have ew : wipe σ3 vs = wipe σ vs := by
            have z := wipe_eq (vs := vs) (fun j hj => (C4.sl j hj).2.2) C4.lenσ hts
            rw [z]
            exact wipe_eq (ts := vs) (fun j hj => wipe_out2 hj) (wipe_length _ _) fun _ h => h
          have hv3 : ∀ v ∈ vs, v < σ3.length := fun v h => by
            rw [C4.lenσ, wipe_length]; exact hv' v h
          have N3 : New c (frz G2 H3 B) As3 B0 := ⟨mB.nd, mB.h0, fun b hb => by rw [frz_out (oB b hb)]; exact mB.g b hb, fun b hb j z => mB.out b hb j (C4.sub j b z)⟩
          have ra3 : RoL c.E (frz G2 H3 B) H3 acc xs B0 := RoL.keep x4 ra fun a ha u hu => kp a u hu
          refine ⟨ew, frz G2 H3 B, S3, As3, τ, R4, fin_mono (fin_bn k3) fun b S4 e4 k4 => ?_⟩
          intro G4 As4 H4 R5 P5
          obtain ⟨N4, kp4⟩ := N3.later (RoL.there ra3) P5
          have ra4 := RoL.keep P5.exG ra3 kp4
          have P4 : Post ((m2 ++ m3) ++ vs) (wipeS S1 vs) S3 (wipeA As1 vs) As3 G1 (frz G2 H3 B) H1 H3 := P3.trans (C4.post hts)
          have P6 := P4.trans P5
          have D3 : ∀ j, D ∉ As3 j := fun j z => dA2 j (C4.sub j D z)
          have hD3 : H3 D = some (.lst xs) := kp D _ hD2
          have D4 : ∀ j, D ∉ As4 j := fun j z => by
            rcases P5.new j D z with q | ⟨k', _, q⟩ | q
            · exact D3 j q
            · exact D3 k' q
            · rw [hD3] at q; cases q
          have hD4 : H4 D = some (.lst xs) := P5.frm D _ hD3 fun j _ => D3 j
          have G4D : G4 D = none := by
            rw [P5.gn D (by rw [hD3]; exact fun z => nomatch z) fun j _ => D3 j]
            exact dG3
          have x5 : Ex G2 G4 := x4.trans P5.exG
          have out : ∀ {As5 : Nat → List Addr} {a : Addr}, (∀ j, a ∉ As5 j) → ∀ j, a ∉ wipeA As5 vs j := fun h j z => by
            unfold wipeA at z
            split at z
            · cases z
            · exact h j z
          have P4' : Post (vs ++ (m2 ++ m3)) (wipeS S1 vs) S4 (wipeA As1 vs) As4 G1 G4 H1 H4 := P6.mono fun j hj => by
            simp only [List.mem_append] at hj ⊢
            rcases hj with ((h | h) | h) | h
            · exact .inr (.inl h)
            · exact .inr (.inr h)
            · exact .inl h
            · exact .inr (.inl h)
          cases b with
          | false =>
            rw [if_neg Bool.false_ne_true]
            have R6 := R5.wipe hv3 hio
            rw [ew] at R6
            exact ⟨G4, wipeS S4 vs, wipeA As4 vs, acc, xs, B0, R6, x2.trans x5, P4'.unvs h0 hs0, hD4, ra4, ⟨mB.nd, mB.h0, N4.g, fun b hb => out (N4.out b hb), mB.fr, mB.ne⟩, by omega, G4D, out D4, k4⟩
          | true =>
            rw [if_pos rfl]
            refine ⟨G4, S4, As4, τ, R5, fin_mono (fin_bn k4) fun x S5 e5 k5 => ?_⟩
            intro v A G5 As5 H5 R6 P8 r6 N6 F6
            obtain ⟨N5, kp5⟩ := N4.later (RoL.there ra4) P8
            have ra5 := RoL.keep P8.exG ra4 kp5
            have hD5 : H5 D = some (.lst xs) := P8.frm D _ hD4 fun j _ => D4 j
            have D5 : ∀ j, D ∉ As5 j := fun j z => by
              rcases P8.new j D z with q | ⟨k', _, q⟩ | q
              · exact D4 j q
              · exact D4 k' q
              · rw [hD4] at q; cases q
            have G5D : G5 D = none := by
              rw [P8.gn D (by rw [hD4]; exact fun z => nomatch z) fun j _ => D4 j]
              exact G4D
            have lx : xs.length < sizeLine := by
              have := RoL.length ra
              rw [sizeLine_eq]
              omega
            refine ⟨xs, hD5, lx, ?_⟩
            have DA : D ∉ A := fun z => by
              rcases F6 D z with q | ⟨k', _, q⟩
              · rw [hD4] at q; cases q
              · exact D4 k' q
            have AB : ∀ a ∈ B0, a ∉ A := fun a ha z => by
              rcases F6 a z with q | ⟨k', _, q⟩
              · exact RoL.there ra4 a ha q
              · exact N4.out a ha k' q
            have P7 : Post (vs ++ (m2 ++ m3)) (wipeS S1 vs) S5 (wipeA As1 vs) As5 G1 G5 H1 H5 := (P6.trans P8).mono fun j hj => by
              simp only [List.mem_append] at hj ⊢
              rcases hj with (((h | h) | h) | h) | h
              · exact .inr (.inl h)
              · exact .inr (.inr h)
              · exact .inl h
              · exact .inr (.inl h)
              · exact .inr (.inr h)
            have FA : Frs (m2 ++ m3) (wipeA As1 vs) H1 A := fun a ha => by
              rcases Frs.later P4' F6 a ha with q | ⟨k', hk, q⟩
              · exact .inl q
              · simp only [List.mem_append] at hk
                rcases hk with (h | h) | h
                · rw [h0 k' h] at q; cases q
                · exact .inr ⟨k', List.mem_append.mpr h, q⟩
                · exact .inr ⟨k', List.mem_append_right _ h, q⟩
            have R7 := R6.wipe hv3 hio
            rw [ew] at R7
            have R8 := R7.mutOut (o := .lst (xs ++ [v])) G5D (out D5) dH0
            have ra6 : RoL c.E G5 H5 (acc ++ [x]) (xs ++ [v]) (B0 ++ A) := .append ra5 (.one r6)
            have DBA : D ∉ B0 ++ A := fun z => (List.mem_append.mp z).elim mB.ne DA
            have ra7 : RoL c.E G5 (upd H5 D (.lst (xs ++ [v]))) (acc ++ [x]) (xs ++ [v]) (B0 ++ A) := RoL.keep (Ex.refl _) ra6 fun a ha u hu => by
              rw [upd_ne (show a ≠ D from fun z => DBA (z ▸ ha))]
              exact hu
            have NN := N5.cat N6 AB
            refine ⟨G5, wipeS S5 vs, wipeA As5 vs, acc ++ [x], xs ++ [v], B0 ++ A, R8, x2.trans (x5.trans P8.exG), (P7.unvs h0 hs0).mut hD (by rw [hD5]; exact fun z => nomatch z), upd_same, ra7, ⟨NN.nd, NN.h0, NN.g, fun b hb => out (NN.out b hb), fun a ha => ?_, DBA⟩, ?_, G5D, out D5, ?_⟩
            · exact (List.mem_append.mp ha).elim (mB.fr a) (FA a)
            · rw [List.length_append]
              show acc.length + 1 ≤ i + 1
              omega
            · refine fin_mono (fin_bn (W := W) k5) fun ys S6 _ k6 => ?_
              rw [List.append_assoc]
              exact k6
      · have e : i = ds.length := by omega
        subst e
        rw [List.drop_length] at k2
        refine .inl ⟨Wk.stop _ H2 x3 (Nat.le_refl _), ?_⟩
        have A0 : ∀ v ∈ vs, As1 v = [] := fun v hvv => by
          have hl := hv' v hvv
          have hs : v < S1.length := by rw [R1.len]; omega
          have q := R1.sl v _ (List.getElem?_eq_getElem hs)
          have n := hno v hvv
          rw [List.getElem?_eq_getElem hs] at n
          cases e : S1[v] with
          | no => rw [e] at q; exact q
          | pl d => rw [e] at q; exact q.1
          | ow o => rw [e] at n; cases n
        have wA : ∀ {As5 : Nat → List Addr} {a : Addr} {j : Nat}, a ∈ wipeA As5 vs j → a ∈ As5 j := fun {As5 a j} z => by
          unfold wipeA at z
          split at z
          · cases z
          · exact z
        refine k2 (.ref D) (D :: B0) G2 (wipeA As2 vs) H2 (R2.unwipe R1 x2 hv' hio hno) (P1.trans (P2.unwipe A0)) ?_ ⟨?_, ?_, ?_, ?_⟩ fun a ha => ?_
        · unfold Ro
          rw [List.append_nil]
          exact ⟨D, xs, B0, rfl, rfl, hD2, ra⟩
        · exact List.nodup_cons.mpr ⟨mB.ne, mB.nd⟩
        · intro a ha
          rcases List.mem_cons.mp ha with z | z
          · rw [z]; exact dH0
          · exact mB.h0 a z
        · intro a ha
          rcases List.mem_cons.mp ha with z | z
          · rw [z]; exact dG2
          · exact mB.g a z
        · intro a ha j z
          have z' := wA z
          rcases List.mem_cons.mp ha with q | q
          · exact dA2 j (q ▸ z')
          · exact mB.out a q j z'
        · rcases List.mem_cons.mp ha with z | z
          · exact Frs.post (Frs.one P1 hD) a (by rw [z]; exact List.mem_cons_self)
          · refine Frs.later P1 (m2 := m2 ++ m3) (A := B0) (fun a ha => ?_) a z
            exact (mB.fr a ha).imp id fun ⟨k', hk, q⟩ => ⟨k', hk, wA q⟩
theorem zCompO {scope : Scope} {own : List (Str × Nat)} {pos : Pos} {ifs : List Expr} (hc : X.calm = true) (hN : X.N.Nodup) (hi : PI X tg iter (tI c W m1 mi)) (ok : BlkOk X.N X.env.scope scope own) (hvs : own.map (·.2) = vs) (hv : ∀ v ∈ vs, v < X.N.length) (hio : ∀ v ∈ vs, v ∉ c.io) (hts : ∀ j ∈ ts, j ∈ vs)
    (hg : ∀ (s : Shared) (H : Hp) (C : Addr) (cl : List (Str × Addr)) (fp : List Addr), PG (X.blk s H scope (compEnvC scope cl C X.env) fp) tg (gT c ts g)) (ht : ∀ (s : Shared) (H : Hp) (C : Addr) (cl : List (Str × Addr)) (fp : List Addr), PTs (X.blk s H scope (compEnvC scope cl C X.env) fp) ifs (tT c E00 m2 t))
    (he : ∀ (s : Shared) (H : Hp) (C : Addr) (cl : List (Str × Addr)) (fp : List Addr), PE (X.blk s H scope (compEnvC scope cl C X.env) fp) elt (tO c E00 m3 me)) (hs : ∀ x, foldedSetIterable iter X.env x = pure x := by intro _; rfl) :
    PE X (.ListComp elt [⟨tg, iter, ifs, 0⟩] scope pos) (tO c W (m1 ++ (m2 ++ m3)) (mCompO mi g t me vs)) := by
  subst hvs
  exact PEl (pe_lc hc hN hi ok hg ht he hs) (w_compO hv hio hts)
theorem zOwnCO {i : Nat} {y : Str} {py : Pos} {scope : Scope} {own : List (Str × Nat)} {pos spos : Pos} {ifs : List Expr} (hc : X.calm = true) (hN : X.N.Nodup) (hy : X.N[i]? = some y) (hyl : X.env.scope.names.lookup y = some .local) (hyo : i ∉ c.io)
    (hsw : swapsWith (.ListComp elt [⟨tg, iter, ifs, 0⟩] scope pos) (some (.Name y py)) spos.line X.env = pure true) (hi : PI X tg iter (tI c W m1 mi)) (ok : BlkOk X.N X.env.scope scope own) (hvs : own.map (·.2) = vs) (hv : ∀ v ∈ vs, v < X.N.length) (hio : ∀ v ∈ vs, v ∉ c.io) (hts : ∀ j ∈ ts, j ∈ vs)
    (hg : ∀ (s : Shared) (H : Hp) (C : Addr) (cl : List (Str × Addr)) (fp : List Addr), PG (X.blk s H scope (compEnvC scope cl C X.env) fp) tg (gT c ts g)) (ht : ∀ (s : Shared) (H : Hp) (C : Addr) (cl : List (Str × Addr)) (fp : List Addr), PTs (X.blk s H scope (compEnvC scope cl C X.env) fp) ifs (tT c E00 m2 t))
    (he : ∀ (s : Shared) (H : Hp) (C : Addr) (cl : List (Str × Addr)) (fp : List Addr), PE (X.blk s H scope (compEnvC scope cl C X.env) fp) elt (tO c E00 m3 me)) (hs : ∀ x, foldedSetIterable iter X.env x = pure x := by intro _; rfl) :
    PS X (.Assign [.Name y py] (.ListComp elt [⟨tg, iter, ifs, 0⟩] scope pos) spos) (tS c W (sOwn (mCompO mi g t me vs) i)) := by
  subst hvs
  refine PSl (ps_setLc hc hN hy hyl hsw hi ok hg ht he hs) fun D σ H hl h => ?_
  exact w_compO hv hio hts σ H _ hl (w_own (List.getElem?_eq_some_iff.mp hy).1 hyo D σ H hl h)
end
end Z

/-! Z21: enumerate, zip; attributes set; two names at once. -/
namespace Z
open PySem PySem.Spec PyProof.Rows L2
def enumFrom (n : Nat) : List D → List D
  | [] => []
  | d :: ds => .tup [.int n, d] :: enumFrom (n + 1) ds
def enumD (ds : List D) : List D := enumFrom 0 ds
theorem enumFrom_len : ∀ (ds : List D) (n : Nat), (enumFrom n ds).length = ds.length
  | [], _ => rfl
  | d :: ds, n => by
    show (enumFrom (n + 1) ds).length + 1 = ds.length + 1
    rw [enumFrom_len ds]
theorem enumFrom_at : ∀ (ds : List D) (n i : Nat) (d : D), ds[i]? = some d → (enumFrom n ds)[i]? = some (.tup [.int ((n + i : Nat) : Int), d])
  | [], _, _, _, h => by cases h
  | d :: ds, n, 0, d', h => by
    cases h
    rfl
  | d :: ds, n, i + 1, d', h => by
    have := enumFrom_at ds (n + 1) i d' h
    show (enumFrom (n + 1) ds)[i]? = _
    rw [this, Nat.add_right_comm n 1 i]
    rfl
theorem none_in {G H : Hp} (e : Ex G H) {a : Addr} (h : H a = none) : G a = none := by
  cases q : G a with
  | none => rfl
  | some o => exact absurd h (e.some q)
section
variable {E : Ev} {G : Hp}
theorem walks_enum {a : Addr} {ds : List D} {xs : List V} (sq : ∀ H, Ex G H → SqL E.K H a xs) (r : RsL E G ds xs) : Walks E (Ite E.K a) G (enumD ds) where
  go := fun i H x h => by
    rw [enumD, enumFrom_len, RsL.length r] at h
    exact ⟨xs, xs[i], sq H x, List.getElem?_eq_getElem h⟩
  stop := fun i H x h => by
    rw [enumD, enumFrom_len, RsL.length r] at h
    exact ⟨xs, sq H x, h⟩
  yld := fun i H v H' x h y => by
    rw [enumD, enumFrom_len] at h
    obtain ⟨T, u, rfl, hT, rfl, hu⟩ := y
    obtain ⟨w, hw, rw'⟩ := RsL.get r (List.getElem?_eq_getElem h)
    have e1 := hu xs (sq H x)
    rw [hw] at e1
    cases e1
    refine ⟨Keep.new hT, [T], _, enumFrom_at ds 0 i _ (List.getElem?_eq_getElem h), fun b hb => ?_, List.nodup_cons.mpr ⟨fun z => (nomatch z), List.nodup_nil⟩, fun G2 x2 x3 => ?_⟩
    · obtain rfl : b = T := by simpa using hb
      exact hT
    · have gT : G2 T = none := none_in x3 hT
      have x4 : Ex G2 (frz G2 (upd H T (.tup [.int (i : Nat), u])) [T]) := frz_ex fun b hb => by
        obtain rfl : b = T := by simpa using hb
        exact gT
      unfold Rs
      refine ⟨T, _, rfl, .inl (by rw [frz_in (by simp)]; exact upd_same), .cons ?_ (.cons (Rs.mono (x2.trans x4) rw') .nil)⟩
      unfold Rs
      rw [Nat.zero_add]
theorem walks_zip {a b : Addr} {ds es : List D} {xs ys : List V} (sq : ∀ H, Ex G H → SqL E.K H a xs) (sq2 : ∀ H, Ex G H → SqL E.K H b ys) (r : RsL E G ds xs) (r2 : RsL E G es ys) : Walks E (Itz E.K a b) G (List.zipWith (fun x y => D.tup [x, y]) ds es) where
  go := fun i H x h => by
    rw [List.length_zipWith, RsL.length r, RsL.length r2] at h
    have h1 : i < xs.length := by omega
    have h2 : i < ys.length := by omega
    exact ⟨xs, ys, xs[i], ys[i], sq H x, sq2 H x, List.getElem?_eq_getElem h1, List.getElem?_eq_getElem h2⟩
  stop := fun i H x h => by
    rw [List.length_zipWith, RsL.length r, RsL.length r2] at h
    exact ⟨xs, ys, sq H x, sq2 H x, by omega⟩
  yld := fun i H v H' x h y => by
    rw [List.length_zipWith] at h
    obtain ⟨T, u, z, rfl, hT, rfl, hu, hz⟩ := y
    have h1 : i < ds.length := by omega
    have h2 : i < es.length := by omega
    obtain ⟨w, hw, rw'⟩ := RsL.get r (List.getElem?_eq_getElem h1)
    obtain ⟨w2, hw2, rw2⟩ := RsL.get r2 (List.getElem?_eq_getElem h2)
    have e1 := hu xs (sq H x)
    rw [hw] at e1
    cases e1
    have e2 := hz ys (sq2 H x)
    rw [hw2] at e2
    cases e2
    refine ⟨Keep.new hT, [T], .tup [ds[i], es[i]], ?_, fun b hb => ?_, List.nodup_cons.mpr ⟨fun z => (nomatch z), List.nodup_nil⟩, fun G2 x2 x3 => ?_⟩
    · rw [List.getElem?_zipWith, List.getElem?_eq_getElem h1, List.getElem?_eq_getElem h2]
    · obtain rfl : b = T := by simpa using hb
      exact hT
    · have gT : G2 T = none := none_in x3 hT
      have x4 : Ex G2 (frz G2 (upd H T (.tup [u, z])) [T]) := frz_ex fun b hb => by
        obtain rfl : b = T := by simpa using hb
        exact gT
      unfold Rs
      exact ⟨T, _, rfl, .inl (by rw [frz_in (by simp)]; exact upd_same), .cons (Rs.mono (x2.trans x4) rw') (.cons (Rs.mono (x2.trans x4) rw2) .nil)⟩
end
def itEn : List D → Option (List D)
  | [d] => (lstD d).map enumD
  | _ => none
def itZp : List D → Option (List D)
  | [d, e] => (lstD d).bind fun ds => (lstD e).map fun es => List.zipWith (fun x y => D.tup [x, y]) ds es
  | _ => none
section
variable {X : Cx} {c : Ctx} {W : XK} {mods m1 m2 m3 : List Nat} {md : Bool} {e a b o : Expr} {es elts : List Expr} {pos p tpos apos : Pos} {kk : Nat} {m : M (List D)} {mo : M O} {mp : M (List Stp)} {i : Nat}
theorem zEnum (hK : c.E.K = X.K) (hg : Gl X "enumerate") (hmg : X.mg "enumerate" = none) (ha : PA X [e] (tA c W true mods m)) (hs : starEach [e] X.env = [(false, eval e X.env)] := by rfl) : PI X (.Tuple elts kk tpos) (.Call (.Name "enumerate" p) [e] [] pos) (tI c W mods (m1x itEn m)) :=
  PIw (pi_enum hg hmg ha hs) fun σ H R ⟨G, S, As, τ, Rl, q⟩ => by
    refine ⟨G, S, As, τ, Rl, fin_mono (fin_bd q) fun ds S1 e1 k => ?_⟩
    intro vs G1 As1 H1 R1 P1 r1
    unfold itEn at k
    split at k
    · rename_i d
      cases hd : lstD d with
      | none => rw [hd] at k; exact k.elim
      | some es =>
        rw [hd] at k
        obtain ⟨v, rfl, h1⟩ := rs1 r1
        obtain ⟨l, xs, rfl, h2, h3⟩ := lst_at h1 hd
        have w : Walks c.E (Ite X.K l) G1 (enumD es) := hK ▸ walks_enum (fun H x => x.seql h2) h3
        exact ⟨l, xs, rfl, hK ▸ R1.exG.seql h2, k _ G1 As1 H1 R1 P1 w⟩
    · exact k.elim
theorem zZip (hK : c.E.K = X.K) (hg : Gl X "zip") (hmg : X.mg "zip" = none) (ha : PA X [a, b] (tA c W true mods m)) (hs : starEach [a, b] X.env = (false, eval a X.env) :: starEach [b] X.env := by rfl) (hpl : (backTo pos (starEach [b] X.env)).any (·.1) = false := by rfl) : PI X (.Tuple elts kk tpos) (.Call (.Name "zip" p) [a, b] [] pos) (tI c W mods (m1x itZp m)) :=
  PIw (pi_zip hg hmg ha hs hpl) fun σ H R ⟨G, S, As, τ, Rl, q⟩ => by
    refine ⟨G, S, As, τ, Rl, fin_mono (fin_bd q) fun ds S1 e1 k => ?_⟩
    intro vs G1 As1 H1 R1 P1 r1
    unfold itZp at k
    split at k
    · rename_i d e
      cases hd : lstD d with
      | none => rw [hd] at k; exact k.elim
      | some es =>
        cases hd2 : lstD e with
        | none => rw [hd, hd2] at k; exact k.elim
        | some es2 =>
          rw [hd, hd2] at k
          obtain ⟨v, w, rfl, h1, h1'⟩ := rs2 r1
          obtain ⟨l, xs, rfl, h2, h3⟩ := lst_at h1 hd
          obtain ⟨l2, xs2, rfl, h4, h5⟩ := lst_at h1' hd2
          have wk : Walks c.E (Itz X.K l l2) G1 (List.zipWith (fun x y => D.tup [x, y]) es es2) := hK ▸ walks_zip (fun H x => x.seql h2) (fun H x => x.seql h4) h3 h5
          exact ⟨l, l2, xs, xs2, rfl, hK ▸ R1.exG.seql h2, hK ▸ R1.exG.seql h4, k _ G1 As1 H1 R1 P1 wk⟩
    · exact k.elim
end
/-! ### attributes set -/
def putO (f : Str) (o : O) : List Str → List O → List Str × List O
  | [], _ => ([f], [o])
  | _ :: _, [] => ([], [])
  | g :: gs, x :: xs => if g = f then (g :: gs, o :: xs) else (g :: (putO f o gs xs).1, x :: (putO f o gs xs).2)
theorem putO_ok {E : Ev} {G H : Hp} {A : List Addr} {f : Str} {o : O} {y : V} : ∀ {fv : List (Str × V)} {os : List O} {B : List Addr}, RoL E G H os (fv.map (·.2)) B → B.Nodup → A.Nodup → (∀ a ∈ B, a ∉ A) → Ro E G H o y A →
    ∃ B', (putF f y fv).map (·.1) = (putO f o (fv.map (·.1)) os).1 ∧ RoL E G H (putO f o (fv.map (·.1)) os).2 ((putF f y fv).map (·.2)) B' ∧ B'.Nodup ∧ ∀ a ∈ B', a ∈ B ∨ a ∈ A
  | [], os, B, h, nb, na, dj, ro => ⟨A, rfl, RoL.one ro, na, fun a ha => .inr ha⟩
  | (g, x) :: fv, os, B, h, nb, na, dj, ro => by
    cases os with
    | nil =>
      have h' : RoL E G H [] (x :: fv.map (·.2)) B := h
      unfold RoL at h'
      cases h'.1
    | cons x' os =>
      obtain ⟨v, r, A1, A2, e, rfl, h3, h4⟩ := h.consE
      cases e
      have nb2 := List.nodup_append.mp nb
      show ∃ B', (if g = f then (g, y) :: fv else (g, x) :: putF f y fv).map (·.1) = (if g = f then (g :: fv.map (·.1), o :: os) else (g :: (putO f o (fv.map (·.1)) os).1, x' :: (putO f o (fv.map (·.1)) os).2)).1 ∧ _
      by_cases e : g = f
      · rw [if_pos e]
        refine ⟨A ++ A2, by rw [if_pos e]; rfl, ?_, List.nodup_append.mpr ⟨na, nb2.2.1, fun a ha b hb e => dj b (List.mem_append_right _ hb) (e ▸ ha)⟩, fun a ha => ?_⟩
        · have e2 : putO f o (((g, x) :: fv).map (·.1)) (x' :: os) = (g :: fv.map (·.1), o :: os) := if_pos e
          have e3 : putF f y ((g, x) :: fv) = (g, y) :: fv := if_pos e
          rw [e2, e3]
          exact .cons ro h4
        · rcases List.mem_append.mp ha with z | z
          · exact .inr z
          · exact .inl (List.mem_append_right _ z)
      · rw [if_neg e]
        obtain ⟨B', h5, h6, h7, h8⟩ := putO_ok h4 nb2.2.1 na (fun a ha => dj a (List.mem_append_right _ ha)) ro
        refine ⟨A1 ++ B', by rw [if_neg e]; show g :: _ = g :: _; rw [h5], ?_, List.nodup_append.mpr ⟨nb2.1, h7, fun a ha b hb e => ?_⟩, fun a ha => ?_⟩
        · have e2 : putO f o (((g, x) :: fv).map (·.1)) (x' :: os) = (g :: (putO f o (fv.map (·.1)) os).1, x' :: (putO f o (fv.map (·.1)) os).2) := if_neg e
          have e3 : putF f y ((g, x) :: fv) = (g, x) :: putF f y fv := if_neg e
          rw [e2, e3]
          exact .cons h3 h6
        · subst e
          rcases h8 a hb with z | z
          · exact nb2.2.2 a ha a z rfl
          · exact dj a (List.mem_append_left _ ha) z
        · rcases List.mem_append.mp ha with z | z
          · exact .inl (List.mem_append_left _ z)
          · exact (h8 a z).imp (fun q => List.mem_append_right _ q) id
def setF (cn f : Str) (i : Nat) (p : List Stp) (o : O) (S : List Sl) : OutS := match sget S i p with
  | some (.obj C fs os) => match decide (C = cn ∧ fs.length < 1000) with
    | true => .next (sput S i p (.obj C (putO f o fs os).1 (putO f o fs os).2))
    | false => .bad
  | _ => .bad
def sSetF (cn f : Str) (i : Nat) (mo : M O) (mp : M (List Stp)) : MS := fun S => (mo S).sd fun o S1 => (mp S1).sd fun p S2 => setF cn f i p o S2
section
variable {X : Cx} {c : Ctx} {W : XK} {mods m1 m2 m3 : List Nat} {md : Bool} {e a b o : Expr} {es elts : List Expr} {pos p tpos apos : Pos} {kk : Nat} {m : M (List D)} {mo : M O} {mp : M (List Stp)} {i : Nat}
theorem zSetF {cn f : Str} {C : Addr} (hC : c.E.ca cn = C) (cl : Cls X.K C) (hn : NoAttr X.K C f) (hp : PE X o (tP c W m2 i mp)) (he : PE X e (tO c W m1 mo)) (hs : swapsWith e (some (.Attribute o f apos)) pos.line X.env = pure false := by rfl) : PS X (.Assign [.Attribute o f apos] e pos) (tS c W (sSetF cn f i mo mp)) :=
  PSw (ps_fld hp he hs) fun D σ H ⟨G, S, As, R, q⟩ => by
    refine ⟨G, S, As, [], R, fin_mono (ok_sd q) fun oo S1 e1 k1 => ?_⟩
    intro v A G1 As1 H1 R1 P1 r1 N1 F1
    refine ⟨G1, S1, As1, [], R1, fin_mono (ok_sd k1) fun p S2 e2 k2 => ?_⟩
    intro w G2 As2 H2 R2 P2 hl ⟨v0, hv0, pv⟩ ⟨o1, ho1⟩
    obtain ⟨N2, kp2⟩ := N1.later (Ro.there r1) P2
    have r1b := Ro.keep P2.exG r1 kp2
    obtain ⟨A1, ro, nd, dj, go⟩ := mut_end R2 (P1.trans P2) hl hv0 pv ho1 N2 F1.post
    have k3 : okS c W D (setF cn f i p oo S2) := k2
    unfold setF at k3
    rw [ho1] at k3
    cases o1 with
    | obj C' fs os =>
      simp only at k3
      cases hd : decide (C' = cn ∧ fs.length < 1000) with
      | false => rw [hd] at k3; exact k3.elim
      | true =>
        rw [hd] at k3
        obtain ⟨rfl, hlen⟩ := of_decide_eq_true hd
        unfold Ro at ro
        obtain ⟨l, dx, fv, B, rfl, rfl, hH, hfs, rB⟩ := ro
        subst hfs
        have nd2 := List.nodup_cons.mp nd
        obtain ⟨B', h1, h2, h3, h4⟩ := putO_ok (f := f) rB nd2.2 N2.nd (fun a ha => dj a (List.mem_cons_of_mem _ ha)) r1b
        have hlB : l ∉ B' := fun z => by
          rcases h4 l z with q | q
          · exact nd2.1 q
          · exact dj l List.mem_cons_self q
        have ro' : Ro c.E G2 (upd H2 l (.ins (c.E.ca C') dx (putF f v fv))) (.obj C' (putO f oo (fv.map (·.1)) os).1 (putO f oo (fv.map (·.1)) os).2) (.ref l) (l :: B') := by
          unfold Ro
          exact ⟨l, dx, _, B', rfl, rfl, upd_same, h1, RoL.keep (Ex.refl _) h2 fun a ha u hu => by rw [upd_ne (show a ≠ l from fun z => hlB (z ▸ ha))]; exact hu⟩
        have sub : ∀ a ∈ l :: B', a ∈ l :: B ∨ a ∈ A := fun a ha => by
          rcases List.mem_cons.mp ha with z | z
          · rw [z]; exact .inl List.mem_cons_self
          · exact (h4 a z).imp (fun q => List.mem_cons_of_mem _ q) id
        obtain ⟨As3, R3, P3⟩ := go l _ _ (l :: B') List.mem_cons_self ro' (List.nodup_cons.mpr ⟨hlB, h3⟩) sub
        subst hC
        exact ⟨l, _, dx, fv, rfl, hH, cl, hn, by rw [List.length_map] at hlen; exact hlen, k3 G2 As3 σ _ R3⟩
    | _ => exact k3.elim
/-- a step to an attribute -/
def pAt (cn f : Str) (i : Nat) (mp : M (List Stp)) : M (List Stp) := fun S => (mp S).bd fun p S1 => match sget S1 i p with
  | some (.obj C fs os) => match decide (C = cn ∧ fs.contains f = true ∧ fs.length = os.length) with
    | true => .ok (p ++ [.at f]) S1
    | false => .bad
  | _ => .bad
theorem lookup_idx {f : Str} : ∀ {fv : List (Str × V)}, (fv.map (·.1)).contains f = true → ∃ v, fv.lookup f = some v ∧ (fv.map (·.2))[fIdx f (fv.map (·.1))]? = some v
  | [], h => by cases h
  | (g, x) :: fv, h => by
    by_cases e : g = f
    · subst e
      refine ⟨x, by simp [List.lookup], ?_⟩
      unfold fIdx
      simp [List.findIdx_cons]
    · have hgf : (f == g) = false := beq_eq_false_iff_ne.mpr fun z => e z.symm
      have hgf2 : (g == f) = false := beq_eq_false_iff_ne.mpr e
      have h' : (fv.map (·.1)).contains f = true := by
        rw [List.map_cons, List.contains_cons, hgf, Bool.false_or] at h
        exact h
      obtain ⟨v, h1, h2⟩ := lookup_idx h'
      refine ⟨v, by rw [List.lookup_cons, hgf]; exact h1, ?_⟩
      unfold fIdx at h2 ⊢
      show (x :: fv.map (·.2))[List.findIdx (· == f) (g :: fv.map (·.1))]? = _
      rw [List.findIdx_cons]
      simp only [hgf2, cond_false]
      exact h2
theorem zPa {cn f : Str} {C : Addr} (hC : c.E.ca cn = C) (cl : Cls X.K C) (hn : NoAttr X.K C f) (hp : PE X o (tP c W mods i mp)) (hb : attributeBase o f X.env (eval o X.env) = eval o X.env := by rfl) : PE X (.Attribute o f pos) (tP c W mods i (pAt cn f i mp)) :=
  PEw (pe_fld hp hb) fun σ H Q ⟨G, S, As, τ, R, q⟩ => by
    refine ⟨G, S, As, τ, R, fin_mono (fin_bd q) fun p S1 e1 k => ?_⟩
    intro v G1 As1 H1 R1 P1 hl ⟨v0, hv0, pv⟩ ⟨o1, ho1⟩
    obtain ⟨o0, L, A1, Rr, e0, e3, _, ro, _⟩ := at_way R1 hl hv0 pv ho1
    have k1 : fin c W (match sget S1 i p with
      | some (.obj C fs os) => match decide (C = cn ∧ fs.contains f = true ∧ fs.length = os.length) with
        | true => Out.ok (p ++ [.at f]) S1
        | false => .bad
      | _ => .bad) _ := k
    rw [ho1] at k1
    cases o1 with
    | obj C' fs os =>
      simp only at k1
      cases hd : decide (C' = cn ∧ fs.contains f = true ∧ fs.length = os.length) with
      | false => rw [hd] at k1; exact k1.elim
      | true =>
        rw [hd] at k1
        obtain ⟨rfl, hc, hlen⟩ := of_decide_eq_true hd
        unfold Ro at ro
        obtain ⟨l, dx, fv, B, rfl, rfl, hH, hfs, rB⟩ := ro
        subst hfs
        obtain ⟨x, h1, h2⟩ := lookup_idx hc
        subst hC
        have hj : fIdx f (fv.map (·.1)) < os.length := by
          rw [RoL.length rB]
          exact (List.getElem?_eq_some_iff.mp h2).1
        refine ⟨l, _, dx, fv, x, rfl, hH, cl, hn, h1, k1 _ G1 As1 H1 R1 P1 hl ⟨v0, hv0, PathV.snoc pv ⟨l, _, dx, fv, x, rfl, hH, h2, rfl⟩⟩ ⟨os[fIdx f (fv.map (·.1))], ?_⟩⟩
        unfold sget
        rw [e0]
        show oget o0 (p ++ [.at f]) = _
        rw [oget_snoc, e3]
        simp only [Option.bind_some, oget, kids, List.getElem?_eq_getElem hj]
    | _ => exact k1.elim
end
end Z

/-! Z22: repr; how many unlike ints; a step of 1 or -1; two names at once. -/
namespace Z
open PySem PySem.Spec PyProof.Rows L2
/-! ### repr -/
def repOk (p : PyData) : Bool := p.showable && (!p.hasDict && (decide (p.depth ≤ 60) && decide (p.shown.length ≤ sizeLine)))
def rRepr (K : PySem.W.Frag) : List V → Hp → VK → Prop := fun xs H Q => ∃ x p, xs = [x] ∧ Dp K H x p ∧ repOk p = true ∧ Q (.str p.shown) H
theorem cr_repr {X : Cx} (hu : X.A.units + 64 < cLine) (hgd : X.A.guards = some []) : CallR X (.builtin "repr") (rRepr X.K) := by
  intro pins s σ H xs us Q I r h
  obtain ⟨x, p, rfl, d, ok, q⟩ := h
  obtain ⟨u, rfl, rx⟩ := vals1 r
  unfold repOk at ok
  rw [Bool.and_eq_true, Bool.and_eq_true, Bool.and_eq_true] at ok
  obtain ⟨o1, o2, o3, o4⟩ := ok
  have hd : p.hasDict = false := by
    cases e : p.hasDict with
    | false => rfl
    | true => rw [e] at o2; cases o2
  have h3 : p.depth ≤ 60 := of_decide_eq_true o3
  have h4 : p.shown.length ≤ sizeLine := of_decide_eq_true o4
  obtain ⟨as, rd⟩ := Dp.reads I p x u d rx
  cases d with
  | non =>
    cases rx
    exact PySem.P.repr_of_none ⟨.str _, H, I.tok _, ⟨_, rfl⟩, q⟩
  | bl b =>
    cases rx
    exact PySem.P.repr_of_bool ⟨.str _, H, I.tok _, ⟨_, rfl⟩, q⟩
  | int i =>
    obtain ⟨t, rfl⟩ := rx
    exact PySem.P.repr_of_int (of_decide_eq_true o1) ⟨.str _, H, I.tok _, ⟨_, rfl⟩, q⟩
  | str z =>
    obtain ⟨t, rfl⟩ := rx
    exact PySem.P.repr_of_str ⟨.str _, H, I.tok _, ⟨_, rfl⟩, q⟩ h4
  | lst h1 h2 =>
    cases rx
    exact repr_of_reads' rd o1 (PyData.noDict_hsm hd) hgd (by omega) (fun _ _ e => e) (fun h' u tk hk => ⟨.str _, H, I.kept (t' := tk) hk, ⟨_, rfl⟩, q⟩) h4
  | tup h1 h2 =>
    cases rx
    exact repr_of_reads' rd o1 (PyData.noDict_hsm hd) hgd (by omega) (fun _ _ e => e) (fun h' u tk hk => ⟨.str _, H, I.kept (t' := tk) hk, ⟨_, rfl⟩, q⟩) h4
def fRepr : List D → Option D
  | [d] => (toPy d).bind fun p => match repOk p with
    | true => some (.str p.shown)
    | false => none
  | _ => none
theorem ans_repr {c : Ctx} {K : PySem.W.Frag} (hK : c.E.K = K) : AnsL c (rRepr K) fRepr := fun H ds d vs Q h hf => by
  unfold fRepr at hf
  split at hf
  · rename_i d0
    obtain ⟨v, rfl, h1⟩ := rs1 h
    cases hp : toPy d0 with
    | none => rw [hp] at hf; cases hf
    | some p =>
      rw [hp, Option.bind_some] at hf
      cases ho : repOk p with
      | false => rw [ho] at hf; cases hf
      | true =>
        rw [ho] at hf
        cases hf
        exact ⟨rfl, fun k => ⟨v, p, rfl, hK ▸ dp_of h1 hp, ho, k _ (by unfold Rs; rfl)⟩⟩
  · cases hf
/-! ### len(set(xs)) -/
def unl : List Int → List Int
  | [] => []
  | n :: ns => if n ∈ ns then unl ns else n :: unl ns
theorem unl_mem {k : Int} : ∀ {ns : List Int}, k ∈ unl ns ↔ k ∈ ns
  | [] => Iff.rfl
  | n :: ns => by
    unfold unl
    split
    · rw [unl_mem, List.mem_cons]
      exact ⟨.inr, fun h => h.elim (fun e => e ▸ (by assumption)) id⟩
    · rw [List.mem_cons, List.mem_cons, unl_mem]
theorem unl_nodup : ∀ {ns : List Int}, (unl ns).Nodup
  | [] => List.nodup_nil
  | n :: ns => by
    unfold unl
    split
    · exact unl_nodup
    · rename_i h
      exact List.nodup_cons.mpr ⟨fun z => h (unl_mem.mp z), unl_nodup⟩
theorem unl_len {ns ms : List Int} (nd : ms.Nodup) (h : ∀ k, k ∈ ms ↔ k ∈ ns) : ms.length = (unl ns).length :=
  ((List.perm_ext_iff_of_nodup nd unl_nodup).mpr fun k => (h k).trans unl_mem.symm).length_eq
theorem unl_of_nodup : ∀ {ns : List Int}, ns.Nodup → unl ns = ns
  | [], _ => rfl
  | n :: ns, h => by
    unfold unl
    rw [if_neg (List.nodup_cons.mp h).1, unl_of_nodup (List.nodup_cons.mp h).2]
theorem unl_le : ∀ {ns : List Int}, (unl ns).length ≤ ns.length
  | [] => Nat.le_refl _
  | n :: ns => by
    unfold unl
    split
    · exact Nat.le_trans unl_le (Nat.le_succ _)
    · exact Nat.succ_le_succ unl_le
theorem unl_eq : ∀ {ns : List Int}, (unl ns).length = ns.length → ns.Nodup
  | [], _ => List.nodup_nil
  | n :: ns, h => by
    unfold unl at h
    split at h
    · have := unl_le (ns := ns)
      rw [List.length_cons] at h
      omega
    · rename_i hn
      exact List.nodup_cons.mpr ⟨hn, unl_eq (Nat.succ.inj h)⟩
theorem met_ok (val : Nat → Int) : ∀ n, (firstMet val n).Nodup ∧ ∀ k, k ∈ firstMet val n ↔ ∃ i, i < n ∧ val i = k
  | 0 => ⟨List.nodup_nil, fun k => ⟨fun h => (nomatch h), fun ⟨i, h, _⟩ => absurd h (Nat.not_lt_zero i)⟩⟩
  | n + 1 => by
    obtain ⟨h1, h2⟩ := met_ok val n
    rw [firstMet_succ]
    unfold step_dedup
    have e : (firstMet val n).any (· == val n) = decide (val n ∈ firstMet val n) := by
      rw [List.any_beq', List.contains_eq_mem]
    by_cases h : val n ∈ firstMet val n
    · rw [e, decide_eq_true h, if_pos rfl]
      refine ⟨h1, fun k => (h2 k).trans ⟨fun ⟨i, hi, hk⟩ => ⟨i, by omega, hk⟩, fun ⟨i, hi, hk⟩ => ?_⟩⟩
      by_cases hin : i = n
      · subst hin
        rw [← hk]
        exact (h2 _).mp h
      · exact ⟨i, by omega, hk⟩
    · rw [e, decide_eq_false h, if_neg Bool.false_ne_true]
      refine ⟨List.nodup_append.mpr ⟨h1, List.nodup_cons.mpr ⟨fun z => (nomatch z), List.nodup_nil⟩, fun a ha b hb z => ?_⟩, fun k => ?_⟩
      · obtain rfl : b = val n := by simpa using hb
        exact h (z ▸ ha)
      · rw [List.mem_append, h2 k, List.mem_singleton]
        refine ⟨fun z => z.elim (fun ⟨i, hi, hk⟩ => ⟨i, by omega, hk⟩) fun z => ⟨n, by omega, z.symm⟩, fun ⟨i, hi, hk⟩ => ?_⟩
        by_cases hin : i = n
        · exact .inr (by rw [← hk, hin])
        · exact .inl ⟨i, by omega, hk⟩
theorem met_len (ns : List Int) : (firstMet (fun i => ns.getD i 0) ns.length).length = (unl ns).length := by
  obtain ⟨h1, h2⟩ := met_ok (fun i => ns.getD i 0) ns.length
  refine unl_len h1 fun k => (h2 k).trans ⟨fun ⟨i, hi, hk⟩ => ?_, fun h => ?_⟩
  · have hk' : ns.getD i 0 = k := hk
    rw [List.getD_eq_getElem?_getD, List.getElem?_eq_getElem hi] at hk'
    rw [← hk']
    exact List.getElem_mem hi
  · obtain ⟨i, hi, hk⟩ := List.mem_iff_getElem.mp h
    refine ⟨i, hi, ?_⟩
    show ns.getD i 0 = k
    rw [List.getD_eq_getElem?_getD, List.getElem?_eq_getElem hi]
    exact hk
def rLenSet (K : PySem.W.Frag) (ta : TE) : TE := fun σ H Q => ta σ H fun x H1 => ∃ (l : Addr) (ns : List Int), x = V.ref l ∧ (SqL K H1 l (ns.map V.int) ∨ SqT K H1 l (ns.map V.int)) ∧ ns.length < 4000 ∧ Q (.int (unl ns).length) H1
theorem pe_lenUn {X : Cx} {a : Expr} {ta : TE} {p p2 q pos : Pos} (hc : X.calm = true) (hg : Gl X "len") (hm : X.mg "len" = none) (hg2 : Gl X "set") (hm2 : X.mg "set" = none) (ha : PE X a ta) (na : starEach [a] X.env = (false, eval a X.env) :: starEach [] X.env := by rfl) :
    PE X (.Call (.Name "len" p) [.Call (.Name "set" p2) [a] [] q] [] pos) (rLenSet X.K ta) := ⟨fun pins s σ H Q I h => by
  refine Call_ (ld_blt I hg hm PySem.boot_len (PyProof.Rows.callWith_builtin1 (PyProof.Rows.args_cons (Call_ (ld_blt I hg2 hm2 PyProof.Rows.boot_set (PyProof.Rows.callWith_type1 (PyProof.Rows.args_cons (thn (ha.run pins s σ H _ I h) fun v s1 ⟨x, H1, I1, r1, q1⟩ => PyProof.Rows.args_nil ?_) na) na rfl))) rfl) rfl rfl))
  obtain ⟨l, ns, rfl, hq, h1, q1⟩ := q1
  cases r1
  have fin : ∀ (h' : Heap) (tk : Nat) (o : Obj) (es : Array (Int × Value)) (ep : Nat) (t : SetTable), h'.get? s1.heap.objs.size = some o → o.ExactSet → o.data = .set es ep t → t.fits es.size = true → es.size = (unl ns).length → (∀ b u, s1.heap.get? b = some u → h'.get? b = some u) →
      wpAny (model X.prog X.w) X.A (spliced (backTo pos (starEach [] X.env))) (fun vs s₂ => wpAny (model X.prog X.w) X.A (call (.builtin "len") (Value.ref s1.heap.objs.size :: vs)) (EP X pins σ Q) X.xe s₂) X.xe { s1 with heap := h', toks := tk } := fun h' tk o es ep t ho hex hd hf hn hk => by
    have I2 : Inv X pins σ H1 { s1 with heap := h', toks := tk } := I1.kept hk
    have hl := unl_le (ns := ns)
    exact PyProof.Rows.args_nil (call_len_set ho hex hd hf (by rw [hn]; omega) ⟨.int (unl ns).length, H1, I2.tok _, ⟨_, by rw [hn]⟩, q1⟩)
  rcases hq with hq | hq
  · obtain ⟨its, r, pl, hz⟩ := I1.list hq
    have hl : its.toArray.size = ns.length := by rw [List.size_toArray, ← r.length, List.length_map]
    refine call_set_list (ns := ns) (I1.ok.hd hc) pl.isList (by simpa using r.ints) (by unfold scanBound; omega) fun h' tk hS hk => ?_
    rw [hl, met_len] at hS
    obtain ⟨o, es, ep, t, ho, hex, hd, _, _, _, hf, hn⟩ := hS
    exact fin h' tk o es ep t ho hex hd hf hn fun b u e => hk b u (Heap.lt_size e) e
  · obtain ⟨its, r, pt, hz⟩ := I1.tuple hq
    have hi : IntsAre its.toArray.toList ns := ints_of_vals r
    refine call_set_tupI (P := X.prog) (w := X.w) ns (I1.ok.hd hc) (show s1.heap.IsTuple l its.toArray from pt) hi (by unfold scanBound; omega) fun h' tk cc R1 hcn hk => ?_
    obtain ⟨o, es, ep, t, ho, hex, hd, g, nd, hm3, hb, hf, hn, hr, hl2⟩ := R1
    refine fin h' tk o es ep t ho hex hd hf ?_ hk
    have e : (es.toList.map keyOf).length = (unl ns).length := unl_len nd fun k => by
      rw [← hm3 k, decide_eq_true_eq]
    rw [List.length_map, Array.length_toList] at e
    exact e⟩
def dCnt (d : D) : Option D := (seqD d).bind fun ds => (intsD ds).bind fun ns => match decide (ns.length < 4000) with
  | true => some (.int (unl ns).length)
  | false => none
section
variable {X : Cx} {c : Ctx} {W : XK} {mods m1 m2 m3 : List Nat} {md : Bool} {e a b o : Expr} {es elts : List Expr} {pos p p2 q tpos apos : Pos} {kk : Nat} {m ms : M D}
theorem zCntU (hK : c.E.K = X.K) (hc : X.calm = true) (hg : Gl X "len") (hm : X.mg "len" = none) (hg2 : Gl X "set") (hm2 : X.mg "set" = none) (ha : PE X a (tE c W md mods m)) (na : starEach [a] X.env = (false, eval a X.env) :: starEach [] X.env := by rfl) :
    PE X (.Call (.Name "len" p) [.Call (.Name "set" p2) [a] [] q] [] pos) (tE c W true mods (m1x dCnt m)) := PEw (pe_lenUn hc hg hm hg2 hm2 ha na) fun σ H Q ⟨G, S, As, τ, R, q⟩ => by
  refine ⟨G, S, As, τ, R, fin_mono (fin_bd q) fun d S1 e1 k => ?_⟩
  intro v G1 As1 H1 R1 P1 r1
  have k' : fin c W (oo (dCnt d) S1) _ := k
  unfold dCnt at k'
  cases hs : seqD d with
  | none => rw [hs] at k'; exact k'.elim
  | some ds =>
    rw [hs, Option.bind_some] at k'
    cases hi : intsD ds with
    | none => rw [hi] at k'; exact k'.elim
    | some ns =>
      rw [hi, Option.bind_some] at k'
      cases hl : decide (ns.length < 4000) with
      | false => rw [hl] at k'; exact k'.elim
      | true =>
        rw [hl] at k'
        obtain ⟨l, xs, rfl, h2, h3⟩ := seq_at (Rs.mono (hp_ex R1.exG) r1) hs
        rw [intsD_eq hi] at h3
        rw [RsL.ints h3, hK] at h2
        exact ⟨l, ns, rfl, h2, of_decide_eq_true hl, k' _ G1 As1 H1 R1 P1 (by unfold Rs; rfl)⟩
/-! ### e[::s], s 1 or -1 -/
def tStepL (K : PySem.W.Frag) (te ts : TE) : TE := fun σ H Q => te σ H fun x H1 => ts σ H1 fun y H2 => ∃ a xs i, x = .ref a ∧ y = .int i ∧ SqL K H2 a xs ∧ ((i = 1 ∧ ∀ p, H2 p = none → Q (.ref p) (upd H2 p (.lst xs))) ∨ (i = -1 ∧ ∀ p, H2 p = none → Q (.ref p) (upd H2 p (.lst xs.reverse))))
theorem pe_step {e st : Expr} {te ts : TE} {p3 pos : Pos} (he : PE X e te) (hst : PE X st ts) (hs : ∀ (a b : Addr), subscripted (.Slice none none (some st) p3) false (.ref a) (.ref b) = operate [.ref a, .ref b] (getItem (.ref a) (.ref b)) := by intros; with_unfolding_all rfl) :
    PE X (.Subscript e (.Slice none none (some st) p3) pos) (tStepL X.K te ts) := ⟨fun pins s σ H Q I h => by
  refine Subscript_ (thn (he.run pins s σ H _ I h) fun v s1 ⟨x, H1, I1, r1, q1⟩ => wpAny_Slice (thn (po_none.run pins s1 σ H1 (fun o H2 => o = none ∧ H2 = H1) I1 ⟨rfl, rfl⟩) fun vl s2 ⟨l, H2, I2, pl, el, e2⟩ => thn (po_none.run pins s2 σ H2 (fun o H3 => o = none ∧ H3 = H2) I2 ⟨rfl, rfl⟩) fun vu s3 ⟨u, H3, I3, pu, eu, e3⟩ => ?_))
  subst el e2 eu e3
  rw [evalPart_some]
  refine thn (hst.run pins s3 σ H3 _ I3 q1) fun vs s4 ⟨y, H4, I4, ry, a, xs, i, ex, ey, hx, q⟩ => ?_
  subst ex ey
  cases r1
  obtain ⟨t, rfl⟩ := ry
  have I5 : Inv X pins σ H4 { s4 with heap := s4.heap.push { cls := .type "slice", data := .fields #[vl, vu, .int i t] } } := I4.kept (t' := s4.toks) fun b ob q => Heap.get?_push_of_some _ q
  obtain ⟨its, r, ht, hz⟩ := I5.list hx
  have hsz : its.toArray.size ≤ sizeLine := by rw [List.size_toArray, ← r.length]; exact hz
  have go : ∀ (zs : List V) (us : List Value), Vals zs us → slicePick its.toArray none none (some i) = us.toArray → zs.length ≤ sizeLine → (∀ p, H4 p = none → Q (.ref p) (upd H4 p (.lst zs))) → i ≠ 0 →
      wpAny (model X.prog X.w) X.A (subscriptTail e (.Slice none none (some st) p3) (.ref a) (.ref s4.heap.objs.size)) (EP X pins σ Q) X.xe { s4 with heap := s4.heap.push { cls := .type "slice", data := .fields #[vl, vu, .int i t] } } := fun zs us rv e1 hl q h0 => by
    refine tail_any (ops := [.ref a, .ref s4.heap.objs.size]) ht.isList.typeIs (PySem.slot_list_getitem.lookup) (wpAny_getItem_list_slice ht.isList (Heap.IsSliceOf.new _ vl vu (.int i t)) pl pu (.int i t) (fun z => h0 (Option.some.inj z)) ?_ hsz) (hs _ _)
    rw [e1]
    exact ⟨.ref _, _, I5.laid (t' := s4.toks) (o := .lst zs) (fun b ob q => Heap.get?_push_of_some _ q) (Nat.le_refl _) ⟨hl, _, 0, rv, Heap.get?_push_size _ rfl⟩, rfl, q _ (I5.hok.fresh (Nat.le_refl _))⟩
  rcases q with ⟨rfl, q⟩ | ⟨rfl, q⟩
  · exact go xs its r (slicePick_all its.toArray) hz q (by decide)
  · exact go xs.reverse its.reverse r.reverse (PySem.W.krv_pick its.toArray) (by rw [List.length_reverse]; exact hz) q (by decide)⟩
def dStep (x y : D) : Option (List D) := match lstD x, y with
  | some ds, .int i => match decide (i = 1), decide (i = -1) with
    | true, _ => some ds
    | false, true => some ds.reverse
    | false, false => none
  | _, _ => none
theorem zStep {st : Expr} {p3 : Pos} (hK : c.E.K = X.K) (he : PE X e (tE c W md mods m)) (hst : PE X st (tE c W true m2 ms)) (hm : (md || m2.isEmpty) = true := by rfl) (hs : ∀ (a b : Addr), subscripted (.Slice none none (some st) p3) false (.ref a) (.ref b) = operate [.ref a, .ref b] (getItem (.ref a) (.ref b)) := by intros; with_unfolding_all rfl) :
    PE X (.Subscript e (.Slice none none (some st) p3) pos) (tO c W (mods ++ m2) (m2N md dStep m ms)) := PEw (pe_step he hst hs) fun σ H Q ⟨G, S, As, τ, R, q⟩ => by
  refine ⟨G, S, As, τ, R, fin_mono (fin_bd q) fun d S1 e1 k => ?_⟩
  intro v G1 As1 H1 R1 P1 r1
  refine ⟨G1, S1, As1, τ, R1, fin_mono (fin_bd k) fun d2 S2 e2 k2 => ?_⟩
  intro u G2 As2 H2 R2 P2 r2
  have k' : fin c W (oo ((dStep d d2).bind (mkL md)) S2) _ := k2
  unfold dStep at k'
  cases hd : lstD d with
  | none => rw [hd] at k'; exact k'.elim
  | some ds =>
    rw [hd] at k'
    cases d2 with
    | int i =>
      simp only at k'
      obtain ⟨a, xs, rfl, h4, h5⟩ := lst_at (rs_later hm P2 r1) hd
      unfold Rs at r2
      have sq : SqL X.K H2 a xs := hK ▸ (hp_ex (md := md) R2.exG).seql h4
      have mk : ∀ (es : List D) (zs : List V), RsL c.E (hp md G2 H2) es zs → fin c W (oo ((some es).bind (mkL md)) S2) (fun o S' => ∀ v A G' As' H', Real c G' S' As' τ σ H' → Post (mods ++ m2) S S' As As' G G' H H' → Ro c.E G' H' o v A → New c G' As' A → Frs (mods ++ m2) As H A → Q v H') → ∀ p, H2 p = none → Q (.ref p) (upd H2 p (.lst zs)) := fun es zs r k p hp0 => by
        cases ho : mkL md es with
        | none => rw [Option.bind_some, ho] at k; exact k.elim
        | some o =>
          rw [Option.bind_some, ho] at k
          exact new_list (md := md) R2 (P1.trans P2) hp0 r ho k
      cases h1 : decide (i = 1) with
      | true =>
        rw [h1] at k'
        simp only at k'
        exact ⟨a, xs, i, rfl, r2, sq, .inl ⟨of_decide_eq_true h1, mk ds xs h5 k'⟩⟩
      | false =>
        rw [h1] at k'
        cases h2 : decide (i = -1) with
        | true =>
          rw [h2] at k'
          simp only at k'
          exact ⟨a, xs, i, rfl, r2, sq, .inr ⟨of_decide_eq_true h2, mk ds.reverse xs.reverse h5.rev k'⟩⟩
        | false =>
          rw [h2] at k'
          exact k'.elim
    | _ => exact k'.elim
end
end Z

/-! Z23: two names at once, also such as a comprehension reads. -/
namespace Z
open PySem PySem.Spec PyProof.Rows L2
theorem ps_parL {X : Cx} {pos : Pos} {i j : Nat} {x y : Str} {a b : Expr} {ta : TA} {px py pt : Pos} {kt k2 pt2} (hc : X.calm = true) (hN : X.N.Nodup) (hi : X.N[i]? = some x) (hj : X.N[j]? = some y) (hij : i ≠ j) (hx : Loc X.env.scope x) (hy : Loc X.env.scope y)
    (fx : X.fn x = true ∨ X.env.scope.names.lookup x = some .local) (fy : X.fn y = true ∨ X.env.scope.names.lookup y = some .local) (ha : PA X [a, b] ta)
    (hw : swappedStores [.Tuple [.Name x px, .Name y py] kt pt] (.Tuple [a, b] k2 pt2) X.env = pure (some [x, y])) (hs : swapsWithSole [.Tuple [.Name x px, .Name y py] kt pt] (.Tuple [a, b] k2 pt2) pos.line X.env = pure false) :
    PS X (.Assign [.Tuple [.Name x px, .Name y py] kt pt] (.Tuple [a, b] k2 pt2) pos) (tPar i j ta) := ⟨fun pins s σ H D I h => by
  rw [exec_Assign_arm]; refine wpAny_bind (wpAny_standAt ?_)
  rw [hs]; refine wpAny_bind (wpAny_pure ?_)
  rw [if_neg (by decide)]; refine wpAny_bind (Tuple_ (thn (ha.run _ pins s σ H _ I h) fun us s1 ⟨vs, H1, I1, r1, q1⟩ => ?_))
  obtain ⟨v, w, e1, q1⟩ := q1; subst e1
  obtain ⟨u1, u2, rfl, rv, rw'⟩ := vals2 r1
  refine wpAny_newObj_type ?_ (by show 2 ≤ sizeLine; decide)
  have It : Inv X pins σ H1 { s1 with heap := s1.heap.push { cls := .type "tuple", data := .seq [u1, u2].toArray } } := I1.kept (t' := s1.toks) fun b o e => Heap.get?_push_of_some _ e
  rw [hw]; refine wpAny_bind (wpAny_pure ?_)
  show wpAny (model X.prog X.w) X.A (rule "assign.swapped-stores" >>= fun _ => unpackItems (.ref s1.heap.objs.size) 2 none >>= fun items => assignInOrder [fun v => bindName X.env y v, fun v => bindName X.env x v] items.reverse >>= fun _ => pure Flow.next) _ _ _
  refine wpAny_bind (wpAny_rule (wpAny_bind (unpackItems_tuple (items := #[u1, u2]) (I.ok.hd hc) (IsTup.new s1.heap _) fun h' hx' => ?_)))
  have Iu := It.kept (h' := h') (t' := s1.toks) fun b o e => hx' b o (Nat.ne_of_lt (Heap.lt_size e)) e
  show wpAny _ _ (assignInOrder [fun v => bindName X.env y v, fun v => bindName X.env x v] [u2, u1] >>= fun _ => pure Flow.next) _ _ _
  refine wpAny_bind (assignInOrder_cons (wpAny_bindName (store_ok Iu hN hj hy rw' (fun s2 I4 => assignInOrder_cons (wpAny_bindName (store_ok I4 hN hi hx rv (fun s3 I5 => assignInOrder_nil (wpAny_pure ?_)) fx))) fy)))
  rw [List.set_comm _ _ (Ne.symm hij)] at I5; exact ⟨_, H1, I5, q1⟩⟩
section
variable {X : Cx} {c : Ctx} {W : XK} {mods : List Nat} {a b : Expr} {pos : Pos} {ma : M (List O)}
theorem zParL {i j : Nat} {x y : Str} {px py pt : Pos} {kt k2 pt2} (hc : X.calm = true) (hN : X.N.Nodup) (hi : X.N[i]? = some x) (hj : X.N[j]? = some y) (hij : i ≠ j) (hx : Loc X.env.scope x) (hy : Loc X.env.scope y) (hio : i ∉ c.io) (hjo : j ∉ c.io) (ha : PA X [a, b] (tAO c W mods ma))
    (fx : X.fn x = true ∨ X.env.scope.names.lookup x = some .local := by first | exact .inl rfl | exact .inr rfl) (fy : X.fn y = true ∨ X.env.scope.names.lookup y = some .local := by first | exact .inl rfl | exact .inr rfl)
    (hw : swappedStores [.Tuple [.Name x px, .Name y py] kt pt] (.Tuple [a, b] k2 pt2) X.env = pure (some [x, y]) := by rfl) (hs : swapsWithSole [.Tuple [.Name x px, .Name y py] kt pt] (.Tuple [a, b] k2 pt2) pos.line X.env = pure false := by rfl) :
    PS X (.Assign [.Tuple [.Name x px, .Name y py] kt pt] (.Tuple [a, b] k2 pt2) pos) (tS c W (sPar i j ma)) :=
  PSl (ps_parL hc hN hi hj hij hx hy fx fy ha hw hs) fun D σ H hl ⟨G, S, As, R, q⟩ => by
    refine ⟨G, S, As, [], R, fin_mono (ok_sd q) fun os S1 e1 k => ?_⟩
    intro vs A G1 As1 H1 R1 P1 r1 N1 _
    have li : i < σ.length := by rw [hl]; exact (List.getElem?_eq_some_iff.mp hi).1
    have lj : j < σ.length := by rw [hl]; exact (List.getElem?_eq_some_iff.mp hj).1
    match os, k, r1 with
    | [o1, o2], k, r1 =>
      obtain ⟨v, r, A1, A2, rfl, rfl, h3, h4⟩ := r1.consE
      obtain ⟨w, r', A3, A4, rfl, rfl, h5, h6⟩ := h4.consE
      unfold RoL at h6
      obtain ⟨rfl, rfl⟩ := h6
      rw [List.append_nil] at N1
      have nd := List.nodup_append.mp N1.nd
      have Na : New c G1 As1 A1 := ⟨nd.1, fun a h => N1.h0 a (List.mem_append_left _ h), fun a h => N1.g a (List.mem_append_left _ h), fun a h => N1.out a (List.mem_append_left _ h)⟩
      have Nb : New c G1 As1 A3 := ⟨nd.2.1, fun a h => N1.h0 a (List.mem_append_right _ h), fun a h => N1.g a (List.mem_append_right _ h), fun a h => N1.out a (List.mem_append_right _ h)⟩
      have R2 := R1.put (τ := []) li hio Na (slOk_of h3)
      have R3 := R2.put (τ := []) (i := j) (by rw [List.length_set]; exact lj) hjo (Nb.apart fun x hx z => nd.2.2 x z x hx rfl) (slOk_of h5)
      exact ⟨v, w, rfl, k G1 _ _ H1 R3⟩
    | [], k, _ => exact k.elim
    | [_], k, _ => exact k.elim
    | _ :: _ :: _ :: _, k, _ => exact k.elim
end
end Z

/-! Z24: starred items; all keywords given. -/
namespace Z
open PySem PySem.Spec PyProof.Rows L2
def mStar (a : M D) (r : M (List D)) : M (List D) := fun S => (a S).bd fun d S1 => (r S1).bd fun ys S2 => match seqD d with
  | some xs => .ok (xs ++ ys) S2
  | none => .bad
def isSeqD (d : D) : Bool := match seqD d with
  | some _ => true
  | none => false
def mSeq (a : M D) : M D := fun S => (a S).bd fun d S1 => match isSeqD d with
  | true => .ok d S1
  | false => .bad
def dLstM (md : Bool) (ds : List D) : Option O := match decide (ds.length ≤ sizeLine) with
  | true => mkL md ds
  | false => none
theorem rsL_later {c : Ctx} {md1 : Bool} {m2 : List Nat} {G1 G2 H1 H2 : Hp} {S1 S2 : List Sl} {As1 As2 : Nat → List Addr} {ds : List D} {vs : List V} (hm : (md1 || m2.isEmpty) = true) (P : Post m2 S1 S2 As1 As2 G1 G2 H1 H2) (h : RsL c.E (hp md1 G1 H1) ds vs) : RsL c.E (hp md1 G2 H2) ds vs := by
  cases md1 with
  | true => exact RsL.mono P.exG h
  | false =>
    cases m2 with
    | nil => exact RsL.mono P.keep.ex h
    | cons j r => cases hm
section
variable {X : Cx} {c : Ctx} {W : XK} {mods m1 m2 m3 : List Nat} {md : Bool} {e a b o : Expr} {es elts : List Expr} {pos p tpos apos : Pos} {kk : Nat} {m mr : M (List D)} {ma : M D}
theorem zStar (hK : c.E.K = X.K) (ha : PE X e (tE c W md m1 ma)) (hr : PA X es (tA c W md m2 mr)) (hm : (md || m2.isEmpty) = true := by rfl) (hs : starEach (.Starred e p :: es) X.env = (true, eval e X.env) :: starEach es X.env := by rfl) :
    PA X (.Starred e p :: es) (tA c W md (m1 ++ m2) (mStar (mSeq ma) mr)) := PAw (StX.pa_star ha hr hs) fun σ H Q ⟨G, S, As, τ, R, q⟩ => by
  refine ⟨G, S, As, τ, R, fin_mono (fin_bd (fin_bd q)) fun d S1 e1 k => ?_⟩
  intro v G1 As1 H1 R1 P1 r1
  unfold isSeqD at k
  cases hd : seqD d with
  | none => rw [hd] at k; exact k.elim
  | some xs =>
    rw [hd] at k
    simp only [Out.bd] at k
    obtain ⟨a, ys, rfl, h2, h3⟩ := seq_at r1 hd
    refine ⟨a, ys, rfl, hK ▸ (h2.imp (fun q => (hp_ex (md := md) R1.exG).seql q) fun q => (hp_ex (md := md) R1.exG).seqt q).symm, G1, S1, As1, τ, R1, fin_mono (fin_bd k) fun zs S2 e2 k2 => ?_⟩
    intro vs G2 As2 H2 R2 P2 r2
    rw [hd] at k2
    exact k2 (ys ++ vs) G2 As2 H2 R2 (P1.trans P2) (RsL.append (rsL_later hm P2 h3) r2)
theorem zLstM (h : PA X es (tA c W md mods m)) : PE X (.List es pos) (tO c W mods (m1x (dLstM md) m)) := PEw (pe_lst h) fun σ H Q ⟨G, S, As, τ, R, q⟩ => by
  refine ⟨G, S, As, τ, R, fin_mono (fin_bd q) fun ds S1 e1 k => ?_⟩
  intro vs G1 As1 H1 R1 P1 r1
  have k' : fin c W (oo (dLstM md ds) S1) _ := k
  unfold dLstM at k'
  cases hl : decide (ds.length ≤ sizeLine) with
  | false =>
    rw [hl] at k'
    exact k'.elim
  | true =>
    rw [hl] at k'
    simp only at k'
    cases ho : mkL md ds with
    | none => rw [ho] at k'; exact k'.elim
    | some o =>
      rw [ho] at k'
      exact ⟨by rw [← RsL.length r1]; exact of_decide_eq_true hl, fun p hp0 => new_list (md := md) R1 P1 hp0 r1 ho k'⟩
end
section
variable {P : Program} {w : World} {K : PySem.W.Frag} {mg : Str → Option Value} {base : Heap} {x qual : Str} {params : Arguments} {body : List Stmt} {scope : Scope} {f : Addr} {fd : FuncData}
/-- every parameter is written, some by keywords that come in the parameters' order -/
theorem kbnA {ps ks : List Str} {n : Nat} (F : FunD K x qual params body scope [] [] f fd)
    (h : ∀ (kV doc pm : Value) (an : Option Addr) (cdv ct : Value) (us ws : List Value), us.length = n → ws.length = ks.length → bindArgs (PySem.W.fnOf x qual params body scope .none kV doc pm an cdv ct) ⟨us, ks.zip ws⟩ = pure (ps.zip (us ++ ws))) : KBn K fd ps n ks (· ++ ·) (· ++ ·) := by
  obtain ⟨oc, od, dV, kV, doc, pm, an, cdv, ct, osl, rfl, lk, hcd, hD, hK⟩ := F.ex
  rcases hD with ⟨_, rfl⟩ | ⟨e, _⟩
  · exact ⟨fun s us ws _ h1 h2 => .of_eq (h kV doc pm an cdv ct us ws h1 h2), fun r1 r2 => r1.append r2⟩
  · exact absurd rfl e
end
section
variable {X : Cx} {c : Ctx} {W : XK} {k nn n : Nat} {fa C : Addr} {fd : FuncData} {ps ks : List Str} {x : Str} {p pos : Pos} {e : Expr} {es : List Expr} {kws : List Keyword} {ma mk : M (List Av)} {m1 m2 bs io : List Nat} {f : Fn}
theorem zMakeA {cn : Str} (hC : c.E.ca cn = C) (hio : ∀ i ∈ c.io, i < X.N.length) (Mc : Mk X.K C fa) (F : FnG X.prog X.w X.K X.mg X.base (L2.CX X.prog X.w) k fa fd ps (spM c.E n io f)) (hr : Room (k + 1) X.A) (hgd : X.A.guards = some []) (hg : Gl X x) (hm : X.mg x = some (.ref C))
    (hb : KBn X.K fd ps (nn + 1) ks (· ++ ·) (· ++ ·)) (hx : Passes (L2.CX X.prog X.w) X W)
    (ha : PA X (e :: es) (tAg c W m1 bs ma)) (hkw : PK X kws (tAg c W m2 bs mk)) (hall : (backToKw pos (keywordEach kws X.env)).all (·.1.isSome) = true := by rfl) (hks : (backToKw pos (keywordEach kws X.env)).filterMap (·.1) = ks := by rfl)
    (hdb : (x == ("__debug__" : Str)) = false := by decide) (he : starEach (e :: es) X.env = (false, eval e X.env) :: starEach es X.env := by rfl)
    (hpl : ((backTo pos (starEach (e :: es) X.env)).any (·.1) || (backToKw pos (keywordEach kws X.env)).any (·.1.isNone)) = false := by rfl) :
    PE X (.Call (.Name x p) (e :: es) kws pos) (tO c W ((m1 ++ m2) ++ bs) (mMake cn n io f nn ks.length (· ++ ·) ma mk)) :=
  zMake hC hio Mc F hr hgd hg hm hb hx (fun G σ as zs vs ws v _ _ h1 h2 => ⟨vs ++ ws, rfl, AvOk.append h1 h2⟩) (fun σ as zs h1 h2 => AvIn.append h1 h2) ha hkw hall hks hdb he hpl
end
end Z

/-! Z25: comprehensions over a list of one's own. -/
namespace Z
open PySem PySem.Spec PyProof.Rows L2
/-- J walks ds, as long as what G has and the node a stand -/
structure WalksV (E : Ev) (J : It) (G : Hp) (ds : List D) (a : Addr) (o : HO) : Prop where
  go : ∀ i H, Ex G H → H a = some o → i < ds.length → J.go i H
  stop : ∀ i H, Ex G H → H a = some o → ds.length ≤ i → J.stop i H
  yld : ∀ i H x H', Ex G H → H a = some o → i < ds.length → J.yld i H x H' → Keep H H' ∧ ∃ B d, ds[i]? = some d ∧ (∀ b ∈ B, H b = none) ∧ B.Nodup ∧ ∀ G2, Ex G G2 → Ex G2 H → Rs E (frz G2 H' B) d x
def tIV (c : Ctx) (X : XK) (i0 : Nat) (m : M (List D)) : TI := fun σ H R => ∃ G S As τ, Real c G S As τ σ H ∧ fin c X (m S) fun ds S' =>
  ∀ J l o G' As' H', Real c G' S' As' τ σ H' → Post [] S S' As As' G G' H H' → l ∈ As' i0 → H' l = some o → WalksV c.E J G' ds l o → R J H'
def shO : List O → Option (List D)
  | [] => some []
  | .sh d :: os => (shO os).map (d :: ·)
  | _ :: _ => none
theorem shO_eq : ∀ {os : List O} {ds : List D}, shO os = some ds → os = ds.map O.sh
  | [], ds, h => by cases h; rfl
  | .sh d :: os, ds, h => by
    have h' : (shO os).map (d :: ·) = some ds := h
    cases hr : shO os with
    | none => rw [hr] at h'; cases h'
    | some es =>
      rw [hr] at h'
      cases h'
      rw [shO_eq hr]
      rfl
  | .lst _ :: _, _, h => by cases h
  | .tup _ :: _, _, h => by cases h
  | .dic _ _ :: _, _, h => by cases h
  | .obj _ _ _ :: _, _, h => by cases h
theorem RoL.of_sh {E : Ev} {G H : Hp} : ∀ {ds : List D} {vs : List V} {B : List Addr}, RoL E G H (ds.map O.sh) vs B → RsL E G ds vs
  | [], vs, B, h => by
    have h' : RoL E G H [] vs B := h
    unfold RoL at h'
    rw [h'.1]
    exact .nil
  | d :: ds, vs, B, h => by
    obtain ⟨v, r, A1, A2, rfl, rfl, h3, h4⟩ := RoL.consE (o := .sh d) (os := ds.map O.sh) h
    unfold Ro at h3
    exact .cons h3.2 (RoL.of_sh h4)
def mItV (i0 : Nat) : M (List D) := fun S => match S[i0]? with
  | some (.ow (.lst os)) => match shO os with
    | some ds => .ok ds S
    | none => .bad
  | _ => .bad
section
variable {X : Cx} {c : Ctx} {W : XK} {i0 : Nat}
theorem zIlV {tg : Expr} {x : Str} {p : Pos} (hN : X.N[i0]? = some x := by rfl) (hv : Vis X.env.scope x := by first | exact Or.inl rfl | exact Or.inr (Or.inl rfl) | exact Or.inr (Or.inr rfl)) (hd : (x == ("__debug__" : Str)) = false := by decide) (hcd : (x == ("__classdict__" : Str)) = false := by decide) :
    PI X tg (.Name x p) (tIV c W i0 (mItV i0)) := ⟨fun pins s σ H R I ⟨G, S, As, τ, Rl, q⟩ => by
  refine (pi_list (pe_var (i := i0) hN hv hd hcd)).run pins s σ H R I ?_
  have hi : i0 < σ.length := by
    rw [I.len]
    exact (List.getElem?_eq_some_iff.mp hN).1
  unfold mItV at q
  split at q
  · rename_i os e
    cases hs : shO os with
    | none => rw [hs] at q; exact q.elim
    | some ds =>
      rw [hs] at q
      obtain ⟨v, h1, h2⟩ := ow_at Rl hi e
      unfold Ro at h2
      obtain ⟨a, xs, B, rfl, eA, hH, rB⟩ := h2
      rw [shO_eq hs] at rB
      have rs := RoL.of_sh rB
      refine ⟨.ref a, h1, a, rfl, ⟨xs, SqL.of hH⟩, q (Itl X.K a) a (.lst xs) G As H Rl Post.refl (by rw [eA]; exact List.mem_cons_self) hH ⟨fun i H x hs hl => ?_, fun i H x hs hl => ?_, fun i H x H' ex hs hl y => ?_⟩⟩
      · rw [RsL.length rs] at hl
        exact ⟨xs, xs[i], SqL.of hs, List.getElem?_eq_getElem hl⟩
      · rw [RsL.length rs] at hl
        exact ⟨xs, SqL.of hs, hl⟩
      · obtain ⟨rfl, y⟩ := y
        refine ⟨Keep.refl _, [], ds[i], List.getElem?_eq_getElem hl, (fun _ z => nomatch z), List.nodup_nil, fun G2 x2 _ => ?_⟩
        obtain ⟨w, hw, rv⟩ := RsL.get rs (List.getElem?_eq_getElem hl)
        have e := y xs (SqL.of hs)
        rw [hw] at e
        rw [frz_nil, ← Option.some.inj e]
        exact Rs.mono x2 rv
  · exact q.elim⟩
end
section
variable {X : Cx} {c : Ctx} {W : XK} {mods m1 m2 m3 vs ts : List Nat} {elt tg iter : Expr} {mi : M (List D)} {g : Tg} {t : M Bool} {me : M D}
theorem w_compV {i0 : Nat} (hi0 : i0 ∉ vs) (him : i0 ∉ m2 ++ m3) (hv : ∀ v ∈ vs, v < X.N.length) (hio : ∀ v ∈ vs, v ∉ c.io) (hts : ∀ j ∈ ts, j ∈ vs) (σ : L2.St) (H : Hp) (Q : VK) (hl : σ.length = X.N.length) (h : tO c W ([] ++ (m2 ++ m3)) (mComp mi g t me vs) σ H Q) :
    tLc (tIV c W i0 mi) (gT c ts g) (tT c E00 m2 t) (tE c E00 true m3 me) vs σ H Q := by
  obtain ⟨G, S, As, τ, R, q⟩ := h
  have hv' : ∀ v ∈ vs, v < σ.length := fun v h => by rw [hl]; exact hv v h
  refine ⟨G, S, As, τ, R, fin_mono (fin_bd q) fun ds S1 e1 k => ?_⟩
  intro J l0 o0 G1 As1 H1 R1 P1 hl0 ho0 Wk D hD
  cases hc1 : decide (ds.length ≤ 16777216) && vs.all fun v => notOw S1[v]? with
  | false =>
    rw [hc1] at k
    exact k.elim
  | true =>
    rw [hc1] at k
    rw [Bool.and_eq_true, List.all_eq_true] at hc1
    have hlen : ds.length ≤ 16777216 := of_decide_eq_true hc1.1
    have hno := hc1.2
    obtain ⟨dH0, dG1, dA1⟩ := R1.fresh hD
    have Rw := R1.wipe hv' hio
    have Rw' : Real c G1 (wipeS S1 vs) (wipeA As1 vs) τ (wipe σ vs) (upd H1 D (.lst [])) := Rw.keep (Keep.new hD)
    have h0 : ∀ v ∈ vs, wipeA As1 vs v = [] := fun v h => if_pos h
    have hs0 : ∀ v ∈ vs, v < (wipeS S1 vs).length → (wipeS S1 vs)[v]? = some .no := fun v h hl => wipeS_in h (by rw [wipeS_len] at hl; exact hl)
    have k0 := fin_bn (W := W) k
    have hΦ : ∀ {S2 : List Sl} {As2 : Nat → List Addr} {G2 H2 : Hp}, Post (m2 ++ m3) (wipeS S1 vs) S2 (wipeA As1 vs) As2 G1 G2 H1 H2 → H2 l0 = some o0 := fun {S2 As2 G2 H2} p => p.frm l0 o0 ho0 fun j hj z => by
      unfold wipeA at z
      split at z
      · cases z
      · have := R1.dj j i0 l0 z hl0
        exact him (this ▸ hj)
    refine ⟨fun i m H2 => m = ds.length - i ∧ i ≤ ds.length ∧ ∃ G2 S2 As2 acc xs, Real c G2 S2 As2 τ (wipe σ vs) H2 ∧ Ex G1 G2 ∧ Post (m2 ++ m3) (wipeS S1 vs) S2 (wipeA As1 vs) As2 G1 G2 H1 H2 ∧ H2 D = some (.lst xs) ∧ RsL c.E G2 acc xs ∧ acc.length ≤ i ∧ G2 D = none ∧ (∀ j, D ∉ As2 j) ∧
        fin c W (cmpGo g t me vs (ds.drop i) S2) (fun ys S3 => ∀ v A G' As' H', Real c G' (restS S1 S3 vs) As' τ σ H' → Post ([] ++ (m2 ++ m3)) S (restS S1 S3 vs) As As' G G' H H' → Ro c.E G' H' (.lst ((acc ++ ys).map .sh)) v A → New c G' As' A → Frs ([] ++ (m2 ++ m3)) As H A → Q v H'),
      ⟨ds.length, rfl, Nat.zero_le _, G1, wipeS S1 vs, wipeA As1 vs, [], [], Rw', Ex.refl _, ?_, upd_same, .nil, Nat.zero_le _, dG1, fun j z => ?_, ?_⟩, ?_⟩
    · exact Post.of_keep (Ex.refl _) (Keep.new hD) fun _ _ => rfl
    · unfold wipeA at z
      split at z
      · cases z
      · exact dA1 j z
    · exact fin_mono k0 fun ys S3 _ k1 => k1
    · rintro i m H2 ⟨rfl, hi, G2, S2, As2, acc, xs, R2, x2, P2, hD2, ra, la, dG2, dA2, k2⟩
      have x3 : Ex G1 H2 := x2.trans R2.exG
      by_cases hlt : i < ds.length
      · have ed : ∃ d, ds[i]? = some d ∧ ds.drop i = d :: ds.drop (i + 1) := ⟨ds[i], List.getElem?_eq_getElem hlt, List.drop_eq_getElem_cons hlt⟩
        refine .inr ⟨Wk.go i H2 x3 (hΦ P2) hlt, fun H3 => ∃ G2 S2 As2 acc xs, Real c G2 S2 As2 τ (wipe σ vs) H3 ∧ Ex G1 G2 ∧ Post (m2 ++ m3) (wipeS S1 vs) S2 (wipeA As1 vs) As2 G1 G2 H1 H3 ∧ H3 D = some (.lst xs) ∧ RsL c.E G2 acc xs ∧ acc.length ≤ i + 1 ∧ G2 D = none ∧ (∀ j, D ∉ As2 j) ∧
            fin c W (cmpGo g t me vs (ds.drop (i + 1)) S2) (fun ys S3 => ∀ v A G' As' H', Real c G' (restS S1 S3 vs) As' τ σ H' → Post ([] ++ (m2 ++ m3)) S (restS S1 S3 vs) As As' G G' H H' → Ro c.E G' H' (.lst ((acc ++ ys).map .sh)) v A → New c G' As' A → Frs ([] ++ (m2 ++ m3)) As H A → Q v H'),
          fun H3 q => ⟨ds.length - (i + 1), by omega, rfl, hlt, q⟩, fun x H3 y => ?_⟩
        obtain ⟨d, hd, edr⟩ := ed
        obtain ⟨kp, B, d', hd', nb, ndb, rs⟩ := Wk.yld i H2 x H3 x3 (hΦ P2) hlt y
        rw [hd] at hd'
        cases hd'
        have R3 := R2.seen kp nb ndb
        have r3 := rs G2 x2 R2.exG
        have nB : ∀ b ∈ B, G2 b = none := fun b hb => (R2.fresh (nb b hb)).2.1
        have DB : D ∉ B := fun z => by rw [nb D z] at hD2; cases hD2
        have x4 : Ex G2 (frz G2 H3 B) := frz_ex nB
        have dG3 : frz G2 H3 B D = none := by rw [frz_out DB]; exact dG2
        have P3 : Post (m2 ++ m3) (wipeS S1 vs) S2 (wipeA As1 vs) As2 G1 (frz G2 H3 B) H1 H3 := by
          have p := P2.trans (Post.of_keep (mods := []) (S := S2) (As := As2) x4 kp fun a h => frz_out fun z => h (nb a z))
          rw [List.append_nil] at p
          exact p
        refine ⟨frz G2 H3 B, S2, As2, τ, d, R3, r3, ?_⟩
        rw [edr] at k2
        have k3 : fin c W (match g d S2 with
          | none => .bad
          | some S1 => (t S1).bn fun b S2 => match b with
            | true => (me S2).bn fun x S3 => (cmpGo g t me vs (ds.drop (i + 1)) (wipeS S3 vs)).bn fun xs S4 => .ok (x :: xs) S4
            | false => cmpGo g t me vs (ds.drop (i + 1)) (wipeS S2 vs)) _ := k2
        cases hg : g d S2 with
        | none =>
          rw [hg] at k3
          exact k3.elim
        | some S3 =>
          rw [hg] at k3
          intro σ3 As3 R4 C4
          have ew : wipe σ3 vs = wipe σ vs := by
            have z := wipe_eq (vs := vs) (fun j hj => (C4.sl j hj).2.2) C4.lenσ hts
            rw [z]
            exact wipe_eq (ts := vs) (fun j hj => wipe_out2 hj) (wipe_length _ _) fun _ h => h
          have hv3 : ∀ v ∈ vs, v < σ3.length := fun v h => by
            rw [C4.lenσ, wipe_length]; exact hv' v h
          refine ⟨ew, frz G2 H3 B, S3, As3, τ, R4, fin_mono (fin_bn k3) fun b S4 e4 k4 => ?_⟩
          intro G4 As4 H4 R5 P5
          have P4 : Post ((m2 ++ m3) ++ vs) (wipeS S1 vs) S3 (wipeA As1 vs) As3 G1 (frz G2 H3 B) H1 H3 := P3.trans (C4.post hts)
          have P6 := P4.trans P5
          have D3 : ∀ j, D ∉ As3 j := fun j z => dA2 j (C4.sub j D z)
          have hD3 : H3 D = some (.lst xs) := kp D _ hD2
          have D4 : ∀ j, D ∉ As4 j := fun j z => by
            rcases P5.new j D z with q | ⟨k', _, q⟩ | q
            · exact D3 j q
            · exact D3 k' q
            · rw [hD3] at q; cases q
          have hD4 : H4 D = some (.lst xs) := P5.frm D _ hD3 fun j _ => D3 j
          have G4D : G4 D = none := by
            rw [P5.gn D (by rw [hD3]; exact fun z => nomatch z) fun j _ => D3 j]
            exact dG3
          have x5 : Ex G2 G4 := x4.trans P5.exG
          have out : ∀ {As5 : Nat → List Addr}, (∀ j, D ∉ As5 j) → ∀ j, D ∉ wipeA As5 vs j := fun h j z => by
            unfold wipeA at z
            split at z
            · cases z
            · exact h j z
          cases b with
          | false =>
            rw [if_neg Bool.false_ne_true]
            have P7 : Post (vs ++ (m2 ++ m3)) (wipeS S1 vs) S4 (wipeA As1 vs) As4 G1 G4 H1 H4 := P6.mono fun j hj => by
              simp only [List.mem_append] at hj ⊢
              rcases hj with ((h | h) | h) | h
              · exact .inr (.inl h)
              · exact .inr (.inr h)
              · exact .inl h
              · exact .inr (.inl h)
            have R6 := R5.wipe hv3 hio
            rw [ew] at R6
            exact ⟨G4, wipeS S4 vs, wipeA As4 vs, acc, xs, R6, x2.trans x5, P7.unvs h0 hs0, hD4, RsL.mono x5 ra, by omega, G4D, out D4, k4⟩
          | true =>
            rw [if_pos rfl]
            refine ⟨G4, S4, As4, τ, R5, fin_mono (fin_bn k4) fun x S5 e5 k5 => ?_⟩
            intro v G5 As5 H5 R6 P8 r6
            have hD5 : H5 D = some (.lst xs) := P8.frm D _ hD4 fun j _ => D4 j
            have D5 : ∀ j, D ∉ As5 j := fun j z => by
              rcases P8.new j D z with q | ⟨k', _, q⟩ | q
              · exact D4 j q
              · exact D4 k' q
              · rw [hD4] at q; cases q
            have G5D : G5 D = none := by
              rw [P8.gn D (by rw [hD4]; exact fun z => nomatch z) fun j _ => D4 j]
              exact G4D
            have lx : xs.length < sizeLine := by
              have := RsL.length ra
              rw [sizeLine_eq]
              omega
            refine ⟨xs, hD5, lx, ?_⟩
            have P7 : Post (vs ++ (m2 ++ m3)) (wipeS S1 vs) S5 (wipeA As1 vs) As5 G1 G5 H1 H5 := (P6.trans P8).mono fun j hj => by
              simp only [List.mem_append] at hj ⊢
              rcases hj with (((h | h) | h) | h) | h
              · exact .inr (.inl h)
              · exact .inr (.inr h)
              · exact .inl h
              · exact .inr (.inl h)
              · exact .inr (.inr h)
            have R7 := R6.wipe hv3 hio
            rw [ew] at R7
            have R8 := R7.mutOut (o := .lst (xs ++ [v])) G5D (out D5) dH0
            have ra5 : RsL c.E G5 (acc ++ [x]) (xs ++ [v]) := .append (RsL.mono (x5.trans P8.exG) ra) (.cons r6 .nil)
            refine ⟨G5, wipeS S5 vs, wipeA As5 vs, acc ++ [x], xs ++ [v], R8, x2.trans (x5.trans P8.exG), (P7.unvs h0 hs0).mut hD (by rw [hD5]; exact fun z => nomatch z), upd_same, ra5, ?_, G5D, out D5, ?_⟩
            · rw [List.length_append]
              show acc.length + 1 ≤ i + 1
              omega
            · refine fin_mono (fin_bn (W := W) k5) fun ys S6 _ k6 => ?_
              rw [List.append_assoc]
              exact k6
      · have e : i = ds.length := by omega
        subst e
        rw [List.drop_length] at k2
        refine .inl ⟨Wk.stop _ H2 x3 (hΦ P2) (Nat.le_refl _), ?_⟩
        have A0 : ∀ v ∈ vs, As1 v = [] := fun v hvv => by
          have hl := hv' v hvv
          have hs : v < S1.length := by rw [R1.len]; omega
          have q := R1.sl v _ (List.getElem?_eq_getElem hs)
          have n := hno v hvv
          rw [List.getElem?_eq_getElem hs] at n
          cases e : S1[v] with
          | no => rw [e] at q; exact q
          | pl d => rw [e] at q; exact q.1
          | ow o => rw [e] at n; cases n
        refine k2 (.ref D) [D] G2 (wipeA As2 vs) H2 (R2.unwipe R1 x2 hv' hio hno) (P1.trans (P2.unwipe A0)) ?_ ⟨?_, ?_, ?_, ?_⟩ (Frs.mono (Frs.one P1 hD) fun j hj => List.mem_append_left _ hj)
        · unfold Ro
          rw [List.append_nil]
          exact ⟨D, xs, [], rfl, rfl, hD2, RoL.sh ra⟩
        · exact List.nodup_cons.mpr ⟨fun z => (nomatch z), List.nodup_nil⟩
        · intro a ha
          obtain rfl : a = D := by simpa using ha
          exact dH0
        · intro a ha
          obtain rfl : a = D := by simpa using ha
          exact dG2
        · intro a ha j z
          obtain rfl : a = D := by simpa using ha
          unfold wipeA at z
          split at z
          · cases z
          · exact dA2 j z
/-- [elt for tg in iter if ..], the items shared -/
theorem zCompV {i0 : Nat} (hi0 : i0 ∉ vs) (him : i0 ∉ m2 ++ m3) {scope : Scope} {own : List (Str × Nat)} {pos : Pos} {ifs : List Expr} (hc : X.calm = true) (hN : X.N.Nodup) (hi : PI X tg iter (tIV c W i0 mi)) (ok : BlkOk X.N X.env.scope scope own) (hvs : own.map (·.2) = vs) (hv : ∀ v ∈ vs, v < X.N.length) (hio : ∀ v ∈ vs, v ∉ c.io) (hts : ∀ j ∈ ts, j ∈ vs)
    (hg : ∀ (s : Shared) (H : Hp) (C : Addr) (cl : List (Str × Addr)) (fp : List Addr), PG (X.blk s H scope (compEnvC scope cl C X.env) fp) tg (gT c ts g)) (ht : ∀ (s : Shared) (H : Hp) (C : Addr) (cl : List (Str × Addr)) (fp : List Addr), PTs (X.blk s H scope (compEnvC scope cl C X.env) fp) ifs (tT c E00 m2 t))
    (he : ∀ (s : Shared) (H : Hp) (C : Addr) (cl : List (Str × Addr)) (fp : List Addr), PE (X.blk s H scope (compEnvC scope cl C X.env) fp) elt (tE c E00 true m3 me)) (hs : ∀ x, foldedSetIterable iter X.env x = pure x := by intro _; rfl) :
    PE X (.ListComp elt [⟨tg, iter, ifs, 0⟩] scope pos) (tO c W ([] ++ (m2 ++ m3)) (mComp mi g t me vs)) := by
  subst hvs
  exact PEl (pe_lc hc hN hi ok hg ht he hs) (w_compV hi0 him hv hio hts)
/-- x = [elt for tg in iter if ..] -/
theorem zOwnCV {i0 : Nat} (hi0 : i0 ∉ vs) (him : i0 ∉ m2 ++ m3) {i : Nat} {y : Str} {py : Pos} {scope : Scope} {own : List (Str × Nat)} {pos spos : Pos} {ifs : List Expr} (hc : X.calm = true) (hN : X.N.Nodup) (hy : X.N[i]? = some y) (hyl : X.env.scope.names.lookup y = some .local) (hyo : i ∉ c.io)
    (hsw : swapsWith (.ListComp elt [⟨tg, iter, ifs, 0⟩] scope pos) (some (.Name y py)) spos.line X.env = pure true) (hi : PI X tg iter (tIV c W i0 mi)) (ok : BlkOk X.N X.env.scope scope own) (hvs : own.map (·.2) = vs) (hv : ∀ v ∈ vs, v < X.N.length) (hio : ∀ v ∈ vs, v ∉ c.io) (hts : ∀ j ∈ ts, j ∈ vs)
    (hg : ∀ (s : Shared) (H : Hp) (C : Addr) (cl : List (Str × Addr)) (fp : List Addr), PG (X.blk s H scope (compEnvC scope cl C X.env) fp) tg (gT c ts g)) (ht : ∀ (s : Shared) (H : Hp) (C : Addr) (cl : List (Str × Addr)) (fp : List Addr), PTs (X.blk s H scope (compEnvC scope cl C X.env) fp) ifs (tT c E00 m2 t))
    (he : ∀ (s : Shared) (H : Hp) (C : Addr) (cl : List (Str × Addr)) (fp : List Addr), PE (X.blk s H scope (compEnvC scope cl C X.env) fp) elt (tE c E00 true m3 me)) (hs : ∀ x, foldedSetIterable iter X.env x = pure x := by intro _; rfl) :
    PS X (.Assign [.Name y py] (.ListComp elt [⟨tg, iter, ifs, 0⟩] scope pos) spos) (tS c W (sOwn (mComp mi g t me vs) i)) := by
  subst hvs
  refine PSl (ps_setLc hc hN hy hyl hsw hi ok hg ht he hs) fun D σ H hl h => ?_
  exact w_own (List.getElem?_eq_some_iff.mp hy).1 hyo D σ H hl h |> fun q => by
    have q' : tO c W ([] ++ (m2 ++ m3)) (mComp mi g t me (own.map (·.2))) σ H (fun x H1 => gName i x σ H1 D.nx) := q
    exact w_compV hi0 him hv hio hts σ H _ hl q'
/-- the same, kept as shared data -/
theorem zAsgCV {i0 : Nat} (hi0 : i0 ∉ vs) (him : i0 ∉ m2 ++ m3) {i : Nat} {y : Str} {py : Pos} {scope : Scope} {own : List (Str × Nat)} {pos spos : Pos} {ifs : List Expr} (hc : X.calm = true) (hN : X.N.Nodup) (hy : X.N[i]? = some y) (hyl : X.env.scope.names.lookup y = some .local) (hyo : i ∉ c.io)
    (hsw : swapsWith (.ListComp elt [⟨tg, iter, ifs, 0⟩] scope pos) (some (.Name y py)) spos.line X.env = pure true) (hi : PI X tg iter (tIV c W i0 mi)) (ok : BlkOk X.N X.env.scope scope own) (hvs : own.map (·.2) = vs) (hv : ∀ v ∈ vs, v < X.N.length) (hio : ∀ v ∈ vs, v ∉ c.io) (hts : ∀ j ∈ ts, j ∈ vs)
    (hg : ∀ (s : Shared) (H : Hp) (C : Addr) (cl : List (Str × Addr)) (fp : List Addr), PG (X.blk s H scope (compEnvC scope cl C X.env) fp) tg (gT c ts g)) (ht : ∀ (s : Shared) (H : Hp) (C : Addr) (cl : List (Str × Addr)) (fp : List Addr), PTs (X.blk s H scope (compEnvC scope cl C X.env) fp) ifs (tT c E00 m2 t))
    (he : ∀ (s : Shared) (H : Hp) (C : Addr) (cl : List (Str × Addr)) (fp : List Addr), PE (X.blk s H scope (compEnvC scope cl C X.env) fp) elt (tE c E00 true m3 me)) (hs : ∀ x, foldedSetIterable iter X.env x = pure x := by intro _; rfl) :
    PS X (.Assign [.Name y py] (.ListComp elt [⟨tg, iter, ifs, 0⟩] scope pos) spos) (tS c W (sAsg (mFr (mComp mi g t me vs)) (gNm i))) := by
  subst hvs
  refine PSl (ps_setLc hc hN hy hyl hsw hi ok hg ht he hs) fun D σ H hl ⟨G, S, As, R, q⟩ => ?_
  have hlt : i < σ.length := by rw [hl]; exact (List.getElem?_eq_some_iff.mp hy).1
  refine w_compV hi0 him hv hio hts σ H _ hl ⟨G, S, As, [], R, fin_mono (fin_bd (ok_sd q)) fun o S1 e1 k => ?_⟩
  intro v A G1 As1 H1 R1 P1 r1 N1 F1
  exact k _ _ _ _ ((R1.freeze N1).put (s := .pl (fr o)) (v := v) (A := []) hlt hyo New.nil ⟨rfl, v, rfl, R1.frozen N1 r1⟩)
end
end Z

/-! Z26: the law's end, where no repr is under way. -/
namespace Z
open PySem PySem.Spec PyProof.Rows L2
section
variable {P : Program} {w : World} {K : PySem.W.Frag} {mg mb : Str → Option Value} {k : Nat} {fa a : Addr} {fd : FuncData} {x : Str} {sp : Sp} {s1 : Shared} {us : List Value} {ns : List Int}
/-- from a heap in which the script alone may be tracked -/
theorem lawAt {H : Hp} (KX : K.In s1.heap) (hns : s1.heap.Ns mainGlobals mg) (hb : s1.heap.Ns builtinsNs mb) (hbb : ∀ z : Str, z ≠ "__name__" → mb z = bootBuiltins z) (hlim : s1.heap.NoLimit) (hg : s1.gens = #[]) (ha : s1.heap.get? a = some { cls := .type "list", data := .seq us.toArray })
    (hr : Room k callerA) (F : ∀ base : Heap, K.In base → base.Ns mainGlobals mg → FnG P w K mg base (L2.CX P w) k fa fd [x] sp) (hbind : ∀ (s : Shared) (u : Value), BindsTo s fd ⟨[u], []⟩ [(x, u)])
    (hsp : sp [.ref a] H (fun v _ => v = .bl true) fun _ _ _ => False) (hO : Only H) (hok : HOk P w H s1.heap) (hA : ∀ b, H b ≠ none → b = a) (hK : H a ≠ none → K.lookup a = none) :
    codeAny (model P w) callerA (.call (.ref fa) ⟨[.ref a], []⟩) (fun r s' => r = .ok (.ret (.bool true)) ∧ OldK s1.heap s'.heap ∧ s'.os = s1.os ∧ AllBare s'.gens) s1 := by
  have dictNo : ∀ {b : Addr} {o : Obj} {es : Array DictEntry} {ep : Nat}, s1.heap.get? b = some o → o.data = .dict es ep → H b = none := by
    intro b o es ep e d
    apply Classical.byContradiction
    intro q
    have q2 := hA b q
    rw [q2, ha] at e
    cases e
    exact nomatch (show Data.seq us.toArray _ = Data.dict es ep from d)
  have nsB : ∀ {b : Addr} {m : Str → Option Value}, s1.heap.Ns b m → (hidT s1.heap H).Ns b m := by
    rintro b m ⟨o, es, ep, e, d, r⟩
    exact ⟨o, es, ep, hidT_get e (dictNo e d), d, r⟩
  have kinB : K.In (hidT s1.heap H) := by
    intro b o e
    refine hidT_get (KX b o e) (Classical.byContradiction fun q => ?_)
    have q2 := hA b q
    rw [q2] at q e
    rw [hK q] at e
    cases e
  obtain ⟨mc, hm1, hm2⟩ := hlim
  have modB : Mod K mg (hidT s1.heap H) := ⟨kinB, nsB hns, ⟨mb, nsB hb, hbb⟩, mc, nsB hm1, hm2⟩
  have env0 : Env0 P w K mg (hidT s1.heap H) callerA [] s1 H := ⟨rfl, modB, fun _ _ e => of_hidT e, Nat.le_of_eq (hidT_size _ _), trivial, fun _ z => (nomatch z), hok, .of_eq hg⟩
  have run := (F _ kinB (nsB hns)).run callerA [] s1 H ⟨[.ref a], []⟩ [.ref a] [.ref a] _ _ hr rfl env0 (hbind s1 (.ref a)) (.cons rfl .nil) hsp
  refine codeAny_mono run fun r s' h => ?_
  match r, h with
  | .error e, h =>
    obtain ⟨_, _, _, _, _, _, _, _, _, _, _, _, z⟩ := h
    exact z.elim
  | .ok (.ret u), h =>
    obtain ⟨v, H2, os, bare, un, hok2, rv, q⟩ := h
    have q2 : v = .bl true := q
    subst q2
    obtain rfl : u = Value.bool true := rv
    refine ⟨rfl, OldK.of_keep fun b o e => ?_, os, bare⟩
    cases q : H b with
    | none => exact un.keep b o e q (fun z => (nomatch z)) (by simp)
    | some u2 =>
      rcases hO b with z | ⟨ob, xs, z⟩
      · rw [q] at z
        cases z
      · obtain ⟨e1, _⟩ := hok b _ z
        obtain ⟨e2, _⟩ := hok2 b _ (un.frzs b ob _ z)
        rw [e] at e1
        cases e1
        exact e2
theorem lawG (KX : K.In s1.heap) (hns : s1.heap.Ns mainGlobals mg) (hb : s1.heap.Ns builtinsNs mb) (hbb : ∀ z : Str, z ≠ "__name__" → mb z = bootBuiltins z) (hlim : s1.heap.NoLimit) (hg : s1.gens = #[]) (ha : s1.heap.get? a = some { cls := .type "list", data := .seq us.toArray }) (hi : IntsAre us ns) (hl : ns.length ≤ sizeLine)
    (hr : Room k callerA) (F : ∀ base : Heap, K.In base → base.Ns mainGlobals mg → FnG P w K mg base (L2.CX P w) k fa fd [x] sp) (hbind : ∀ (s : Shared) (u : Value), BindsTo s fd ⟨[u], []⟩ [(x, u)])
    (hsp : ∀ H : Hp, Only H → SqL K H a (ns.map V.int) → sp [.ref a] H (fun v _ => v = .bl true) fun _ _ _ => False) :
    codeAny (model P w) callerA (.call (.ref fa) ⟨[.ref a], []⟩) (fun r s' => r = .ok (.ret (.bool true)) ∧ OldK s1.heap s'.heap ∧ s'.os = s1.os ∧ AllBare s'.gens) s1 := by
  have rv := L2.vals_ints hi
  cases hk : K.lookup a with
  | some o =>
    have e := KX a o hk
    rw [ha] at e
    cases e
    have none0 : Only fun _ => none := fun _ => .inl rfl
    have sq : SqL K (fun _ => none) a (ns.map V.int) := .inr ⟨_, us.toArray, _, hk, rfl, rfl, rfl, (by rw [List.size_toArray, hi.length]; exact hl), (by simpa using rv)⟩
    exact lawAt KX hns hb hbb hlim hg ha hr F hbind (hsp _ none0 sq) none0 (fun b u z => nomatch (show (none : Option HO) = some u from z)) (fun b z => absurd rfl z) fun z => absurd rfl z
  | none =>
    let H1 : Hp := fun b => if b = a then some (.frz { cls := .type "list", data := .seq us.toArray } (.lst (ns.map V.int))) else none
    have at_a : H1 a = some (.frz { cls := .type "list", data := .seq us.toArray } (.lst (ns.map V.int))) := if_pos rfl
    have off : ∀ b, b ≠ a → H1 b = none := fun b h => if_neg h
    have only1 : Only H1 := fun b => by
      by_cases h : b = a
      · subst h
        exact .inr ⟨_, _, at_a⟩
      · exact .inl (off b h)
    refine lawAt KX hns hb hbb hlim hg ha hr F hbind (hsp H1 only1 (.inl (.inr ⟨_, at_a⟩))) only1 (fun b u z => ?_) (fun b z => ?_) fun _ => hk
    · by_cases h : b = a
      · subst h
        rw [at_a] at z
        cases z
        exact ⟨ha, by rw [List.length_map]; exact hl, us, _, rv, ha⟩
      · rw [off b h] at z
        cases z
    · apply Classical.byContradiction
      intro h
      exact z (off b h)
end
theorem walkG {l : PySem.W.OpenLaw} {n k : Nat} {q : Program} {loose : List Str} {XP : (Str → Option Value) → Heap → Prop} {YP : World → Heap → Prop} {d : DefRec} {x : Str} (hn : l.most = some n) (hn2 : n ≤ sizeLine) (hdf : d.params.defaults = []) (hr : Room k callerA)
    (F : ∀ (w : World) (mg : Str → Option Value) (fa : Addr) (h : Heap), YP w h → h.Ns mainGlobals mg → mg d.name = some (.ref fa) → ∃ (K : PySem.W.Frag) (fd : FuncData) (sp : Sp), K.In h ∧ (∀ (s : Shared) (u : Value), BindsTo s fd ⟨[u], []⟩ [(x, u)]) ∧
      (∀ (H : Hp) (a : Addr) (ns : List Int), ns.length ≤ n → Only H → SqL K H a (ns.map V.int) → sp [.ref a] H (fun v _ => v = .bl true) fun _ _ _ => False) ∧ ∀ base : Heap, K.In base → base.Ns mainGlobals mg → FnG l.prog w K mg base (L2.CX l.prog w) k fa fd [x] sp) :
    PySem.W.WalkO q loose XP YP l.row.toRowW d [] (fun f vs => PySem.call f vs) := by
  refine Att.attach_call hn hdf fun w s₀ s1 mg mb fa o pm cd doc a us ns G Y ho hd hcd hmg hobj hints hlen hg => ?_
  obtain ⟨K, fd, sp, KX, hb, hsp, hF⟩ := F w mg fa _ Y G.T.g hmg
  exact lawG KX G.T.g G.T.b G.T.builtins G.T.nolimit hg hobj hints (Nat.le_trans hlen hn2) hr hF hb fun H hO hS => hsp H a ns hlen hO hS
/-- the law's mirror at a script -/
theorem law_sp {E : Ev} {f : Fn} {H : Hp} {a : Addr} {ns : List Int} (hO : Only H) (hS : SqL E.K H a (ns.map V.int)) (h : ∃ S, f [.pl (.fls (ns.map D.int))] = .ok (.sh (.bl true)) S) : spM E 1 [] f [.ref a] H (fun v _ => v = .bl true) (fun _ _ _ => False) := by
  obtain ⟨S, e⟩ := h
  refine ⟨rfl, H, [.pl (.fls (ns.map D.int))], fun _ => [], ⟨Ex.refl H, rfl, fun i s hi => ?_, (fun _ z => nomatch z), fun _ _ => rfl, fun _ => List.nodup_nil, (fun _ _ _ z => nomatch z), (fun _ _ z => nomatch z)⟩, ?_⟩
  · cases i with
    | zero =>
      cases hi
      refine ⟨rfl, .ref a, rfl, ?_⟩
      unfold Rs
      exact ⟨a, _, rfl, hS, RsL.of_ints⟩
    | succ i => cases hi
  · rw [e]
    intro v A G' As' H' x r
    unfold Ro at r
    have r2 := r.2
    unfold Rs at r2
    exact r2
end Z

/-! Z27: a module's ints; lists or tuples walked. -/
namespace Z
open PySem PySem.Spec PyProof.Rows L2
theorem ans_add {c : Ctx} : Ans2 c (rI0 fun i j => .int (i + j)) dAdd := ans_I0 fun _ _ _ => by unfold Rs; rfl
theorem ans_sub {c : Ctx} : Ans2 c (rI0 fun i j => .int (i - j)) dSub := ans_I0 fun _ _ _ => by unfold Rs; rfl
def itS : D → Option (List D)
  | .lst ds => some ds
  | .tup ds => some ds
  | _ => none
section
variable {X : Cx} {c : Ctx} {W : XK} {mods m1 m2 m3 : List Nat} {md : Bool} {e a b o tg iter : Expr} {pos p : Pos} {ma : M D}
theorem zGi {x : Str} {i : Int} (hm : ∃ t, X.mg x = some (.int i t)) (hg : Gl X x := by rfl) (hd : (x == ("__debug__" : Str)) = false := by decide) : PE X (.Name x pos) (tE c W true [] (mC (.int i))) := by
  obtain ⟨t, hm⟩ := hm
  exact zC (t := tC .non) (v := .int i) (pe_glob hg hm ⟨t, rfl⟩ hd) fun _ => by unfold Rs; rfl
theorem zIs2 (hK : c.E.K = X.K) (h : PE X iter (tE c W true mods ma)) : PI X tg iter (tI c W mods (m1x itS ma)) := ⟨fun pins s σ H R I ⟨G, S, As, τ, Rl, q⟩ => by
  have q' : fin c W ((ma S).bd fun d S1 => oo (itS d) S1) _ := q
  cases e : ma S with
  | bad => rw [e] at q'; exact q'.elim
  | exc C fs ds S1 =>
    have k : tI c W mods (m1x itL ma) σ H R := ⟨G, S, As, τ, Rl, by
      show fin c W ((ma S).bd fun d S1 => oo (itL d) S1) _
      rw [e] at q' ⊢
      exact q'⟩
    exact (zIl (tg := tg) hK h).run pins s σ H R I k
  | ok d S1 =>
    cases d with
    | lst ds =>
      have k : tI c W mods (m1x itL ma) σ H R := ⟨G, S, As, τ, Rl, by
        show fin c W ((ma S).bd fun d S1 => oo (itL d) S1) _
        rw [e] at q' ⊢
        exact q'⟩
      exact (zIl (tg := tg) hK h).run pins s σ H R I k
    | tup ds =>
      have k : tI c W mods (m1x itT ma) σ H R := ⟨G, S, As, τ, Rl, by
        show fin c W ((ma S).bd fun d S1 => oo (itT d) S1) _
        rw [e] at q' ⊢
        exact q'⟩
      exact (zIt (tg := tg) hK h).run pins s σ H R I k
    | _ => rw [e] at q'; exact q'.elim⟩
end
end Z

set_option maxHeartbeats 4000000
/-! Z28: a set's table laid anew loses nothing. -/
namespace ZU
open PySem
def lf (m x : Nat) : Nat := (x * 5 + 1) % (m + 1)
def lit (m : Nat) : Nat → Nat → Nat
  | 0, x => x
  | t + 1, x => lit m t (lf m x)
theorem lit_add (m : Nat) : ∀ (a b x : Nat), lit m (a + b) x = lit m b (lit m a x)
  | 0, b, x => by rw [Nat.zero_add]; rfl
  | a + 1, b, x => by
    rw [Nat.add_right_comm]
    exact lit_add m a b (lf m x)
def orb (m : Nat) : Nat → Nat → List Nat
  | 0, _ => []
  | n + 1, x => x :: orb m n (lf m x)
theorem mem_orb {m y : Nat} : ∀ {n x : Nat}, y ∈ orb m n x → ∃ t, t < n ∧ lit m t x = y
  | n + 1, x, h => by
    rcases List.mem_cons.mp h with e | e
    · exact ⟨0, Nat.succ_pos _, e.symm⟩
    · obtain ⟨t, h1, h2⟩ := mem_orb e
      exact ⟨t + 1, Nat.succ_lt_succ h1, h2⟩
def Mk2 (m : Nat) : Prop := m = 7 ∨ m = 15 ∨ m = 31 ∨ m = 63 ∨ m = 127 ∨ m = 255
def chk (m : Nat) : Bool := ((List.range (m + 1)).all fun j => (orb m (m + 1) 0).contains j) && lit m (m + 1) 0 == 0
theorem chk_ok {m : Nat} (h : Mk2 m) : chk m = true := by
  rcases h with rfl | rfl | rfl | rfl | rfl | rfl <;> decide +kernel
theorem cov {m x j : Nat} (h : Mk2 m) (hx : x ≤ m) (hj : j ≤ m) : ∃ t, t ≤ m ∧ lit m t x = j := by
  have hc := chk_ok h
  unfold chk at hc
  rw [Bool.and_eq_true] at hc
  have h0 : ∀ y, y ≤ m → ∃ t, t < m + 1 ∧ lit m t 0 = y := fun y hy => by
    have := List.all_eq_true.mp hc.1 y (List.mem_range.mpr (by omega))
    exact mem_orb (List.contains_iff_mem.mp this)
  have hp : lit m (m + 1) 0 = 0 := eq_of_beq hc.2
  obtain ⟨a, ha, ea⟩ := h0 x hx
  obtain ⟨b, hb, eb⟩ := h0 j hj
  by_cases hab : a ≤ b
  · refine ⟨b - a, by omega, ?_⟩
    rw [← ea, ← lit_add, show a + (b - a) = b by omega]
    exact eb
  · refine ⟨m + 1 - a + b, by omega, ?_⟩
    rw [← ea, ← lit_add, show a + (m + 1 - a + b) = (m + 1) + b by omega, lit_add, hp]
    exact eb
/-- the way's places -/
def pos (m : Nat) : Nat → Nat → Nat → Nat
  | 0, i, _ => i
  | t + 1, i, p => pos m t ((i * 5 + 1 + p / 32) % (m + 1)) (p / 32)
theorem pos_zero (m : Nat) : ∀ (t i : Nat), pos m t i 0 = lit m t i
  | 0, _ => rfl
  | t + 1, i => pos_zero m t _
theorem pos_add (m : Nat) : ∀ (a b i p : Nat), i ≤ m → p < 32 ^ a → ∃ i', i' ≤ m ∧ pos m (a + b) i p = lit m b i'
  | 0, b, i, p, hi, hp => by
    have : p = 0 := by omega
    subst this
    exact ⟨i, hi, by rw [Nat.zero_add, pos_zero]⟩
  | a + 1, b, i, p, hi, hp => by
    rw [Nat.add_right_comm]
    exact pos_add m a b _ _ (Nat.le_of_lt_succ (Nat.mod_lt _ (Nat.succ_pos m))) (by
      rw [Nat.pow_succ] at hp
      exact Nat.div_lt_of_lt_mul (by omega))
theorem pos_cov {m i p j : Nat} (h : Mk2 m) (hi : i ≤ m) (hp : p < 2 ^ 64) (hj : j ≤ m) : ∃ t, t < SetTable.turns m ∧ pos m t i p = j := by
  have hp2 : p < 32 ^ 13 := Nat.lt_of_lt_of_le hp (by decide)
  obtain ⟨i', hi', _⟩ := pos_add m 13 0 i p hi hp2
  obtain ⟨i2, hi2, e2⟩ := pos_add m 13 0 i p hi hp2
  have key : ∃ i', i' ≤ m ∧ ∀ b, pos m (13 + b) i p = lit m b i' := by
    have gen : ∀ (a i p : Nat), i ≤ m → p < 32 ^ a → ∃ i', i' ≤ m ∧ ∀ b, pos m (a + b) i p = lit m b i' := by
      intro a
      induction a with
      | zero =>
        intro i p hi hp
        have : p = 0 := by omega
        subst this
        exact ⟨i, hi, fun b => by rw [Nat.zero_add, pos_zero]⟩
      | succ a ih =>
        intro i p hi hp
        obtain ⟨i', h1, h2⟩ := ih ((i * 5 + 1 + p / 32) % (m + 1)) (p / 32) (Nat.le_of_lt_succ (Nat.mod_lt _ (Nat.succ_pos m))) (by
          rw [Nat.pow_succ] at hp
          exact Nat.div_lt_of_lt_mul (by omega))
        exact ⟨i', h1, fun b => by rw [Nat.add_right_comm]; exact h2 b⟩
    exact gen 13 i p hi hp2
  obtain ⟨i', hi', e⟩ := key
  obtain ⟨t, ht, et⟩ := cov h hi' hj
  exact ⟨13 + t, by unfold SetTable.turns; omega, by rw [e t, et]⟩
/-- who sits at j -/
def at_ (owner : Array (Option Nat)) (j : Nat) : Option Nat := owner.getD j (some 0)
theorem free_none {m : Nat} {owner : Array (Option Nat)} : ∀ (f i p : Nat), SetTable.layClean.free m owner f i p = none → ∀ t, t < f → (at_ owner (pos m t i p)).isNone = false
  | 0, _, _, _, t, ht => absurd ht (Nat.not_lt_zero t)
  | f + 1, i, p, h, t, ht => by
    rw [SetTable.layClean.free] at h
    cases hf : (List.range (SetTable.runEnd m i + 1 - i)).find? fun k => (owner.getD (i + k) (some 0)).isNone with
    | some k => rw [hf] at h; cases h
    | none =>
      rw [hf] at h
      cases t with
      | zero =>
        have h0 := List.find?_eq_none.mp hf 0 (List.mem_range.mpr (by unfold SetTable.runEnd; split <;> omega))
        have : (at_ owner i).isNone ≠ true := by simpa [at_] using h0
        show (at_ owner i).isNone = false
        cases q : (at_ owner i).isNone with
        | false => rfl
        | true => exact absurd q this
      | succ t => exact free_none f _ _ h t (Nat.lt_of_succ_lt_succ ht)
theorem free_some {m : Nat} {owner : Array (Option Nat)} : ∀ (f i p j : Nat), SetTable.layClean.free m owner f i p = some j → (at_ owner j).isNone = true
  | 0, _, _, _, h => by simp [SetTable.layClean.free] at h
  | f + 1, i, p, j, h => by
    rw [SetTable.layClean.free] at h
    cases hf : (List.range (SetTable.runEnd m i + 1 - i)).find? fun k => (owner.getD (i + k) (some 0)).isNone with
    | some k =>
      rw [hf] at h
      cases h
      have h2 := List.find?_some hf
      exact h2
    | none =>
      rw [hf] at h
      exact free_some f _ _ j h
theorem nat_sub_len : ∀ {l k : List Nat}, l.Nodup → (∀ x ∈ l, x ∈ k) → l.length ≤ k.length
  | [], k, _, _ => Nat.zero_le _
  | x :: l, k, nd, h => by
    have h1 := List.nodup_cons.mp nd
    have hx := h x List.mem_cons_self
    have h2 : l.length ≤ (k.erase x).length := nat_sub_len h1.2 fun y hy => (List.mem_erase_of_ne (show y ≠ x from fun e => h1.1 (e ▸ hy))).mpr (h y (List.mem_cons_of_mem _ hy))
    rw [List.length_erase_of_mem hx] at h2
    have : 0 < k.length := List.length_pos_of_mem hx
    rw [List.length_cons]
    omega
structure Ow (m k : Nat) (owner : Array (Option Nat)) : Prop where
  sz : owner.size = m + 1
  all : ∀ i, i < k → ∃ j, j ≤ m ∧ at_ owner j = some i
  lt : ∀ j i, j ≤ m → at_ owner j = some i → i < k
  inj : ∀ j j' i, j ≤ m → j' ≤ m → at_ owner j = some i → at_ owner j' = some i → j = j'
theorem Ow.hole {m k : Nat} {owner : Array (Option Nat)} (W : Ow m k owner) (h : k ≤ m) : ∃ j, j ≤ m ∧ at_ owner j = none := by
  refine Classical.byContradiction fun hn => ?_
  have hs : ∀ j, j ≤ m → ∃ i, at_ owner j = some i := fun j hj => by
    cases e : at_ owner j with
    | none => exact absurd ⟨j, hj, e⟩ hn
    | some i => exact ⟨i, rfl⟩
  have nd : ((List.range (m + 1)).map fun j => (at_ owner j).getD 0).Nodup := by
    refine List.pairwise_iff_getElem.mpr fun a b ha hb hab e => ?_
    rw [List.length_map, List.length_range] at ha hb
    simp only [List.getElem_map, List.getElem_range] at e
    obtain ⟨x, hx⟩ := hs a (by omega)
    obtain ⟨y, hy⟩ := hs b (by omega)
    rw [hx, hy] at e
    have exy : x = y := e
    have := W.inj a b x (by omega) (by omega) hx (by rw [hy, exy])
    omega
  have := nat_sub_len (k := List.range k) nd fun x hx => by
    obtain ⟨j, hj, e⟩ := List.mem_map.mp hx
    have hj' := List.mem_range.mp hj
    obtain ⟨i, hi⟩ := hs j (by omega)
    rw [hi] at e
    have e' : i = x := e
    exact List.mem_range.mpr (e' ▸ W.lt j i (by omega) hi)
  rw [List.length_map, List.length_range, List.length_range] at this
  omega
theorem at_set {owner : Array (Option Nat)} {j i : Nat} {v : Option Nat} (hj : j < owner.size) : at_ (owner.setIfInBounds j v) i = if i = j then v else at_ owner i := by
  unfold at_
  by_cases h : i = j
  · subst h
    rw [if_pos rfl]
    simp [Array.getD_eq_getD_getElem?, hj]
  · rw [if_neg h]
    simp [Array.getD_eq_getD_getElem?, Array.getElem?_setIfInBounds_ne (Ne.symm h)]
theorem Ow.step {m k : Nat} {owner : Array (Option Nat)} (W : Ow m k owner) (hm : Mk2 m) (h : k ≤ m) (hh : Int) : ∃ j, SetTable.layClean.free m owner (SetTable.turns m) (SetTable.bits hh % (m + 1)) (SetTable.bits hh) = some j ∧ Ow m (k + 1) (owner.setIfInBounds j (some k)) := by
  obtain ⟨j0, hj0, e0⟩ := W.hole h
  have hb : SetTable.bits hh < 2 ^ 64 := by
    unfold SetTable.bits
    have h1 := Int.emod_lt_of_pos hh (show (0 : Int) < 2 ^ 64 by decide)
    have h2 := Int.emod_nonneg hh (show (2 : Int) ^ 64 ≠ 0 by decide)
    omega
  cases hf : SetTable.layClean.free m owner (SetTable.turns m) (SetTable.bits hh % (m + 1)) (SetTable.bits hh) with
  | none =>
    obtain ⟨t, ht, et⟩ := pos_cov hm (Nat.le_of_lt_succ (Nat.mod_lt _ (Nat.succ_pos m))) hb hj0
    have := free_none _ _ _ hf t ht
    rw [et, e0] at this
    cases this
  | some j =>
    refine ⟨j, rfl, ?_⟩
    have hn : at_ owner j = none := Option.isNone_iff_eq_none.mp (free_some _ _ _ j hf)
    have hj : j < owner.size := by
      refine Classical.byContradiction fun hc => ?_
      unfold at_ at hn
      rw [Array.getD_eq_getD_getElem?, Array.getElem?_eq_none (by omega)] at hn
      cases hn
    have hjm : j ≤ m := by rw [W.sz] at hj; omega
    refine ⟨by rw [Array.size_setIfInBounds]; exact W.sz, fun i hi => ?_, fun a i ha e => ?_, fun a b i ha hb e1 e2 => ?_⟩
    · by_cases c : i = k
      · subst c
        exact ⟨j, hjm, by rw [at_set hj, if_pos rfl]⟩
      · obtain ⟨a, ha, ea⟩ := W.all i (by omega)
        refine ⟨a, ha, ?_⟩
        rw [at_set hj, if_neg (fun z => by rw [z, hn] at ea; cases ea)]
        exact ea
    · rw [at_set hj] at e
      split at e
      · cases e; omega
      · have := W.lt a i ha e
        omega
    · rw [at_set hj] at e1 e2
      split at e1 <;> split at e2
      · rename_i h1 h2; rw [h1, h2]
      · cases e1
        have := W.lt b k hb e2
        omega
      · cases e2
        have := W.lt a k ha e1
        omega
      · exact W.inj a b i ha hb e1 e2
def stepF (m : Nat) (acc : Option (Array (Option Nat) × Nat)) (h : Int) : Option (Array (Option Nat) × Nat) := do
  let (owner, k) ← acc
  let j ← SetTable.layClean.free m owner (SetTable.turns m) (SetTable.bits h % (m + 1)) (SetTable.bits h)
  pure (owner.setIfInBounds j (some k), k + 1)
theorem lay_eq (m : Nat) (hs : Array Int) : SetTable.layClean m hs = (hs.toList.foldl (stepF m) (some (Array.replicate (m + 1) none, 0))).map (·.1) := by
  unfold SetTable.layClean
  rw [← Array.foldl_toList] <;> rfl
theorem fold_ow {m : Nat} (hm : Mk2 m) : ∀ (hs : List Int) (k : Nat) (owner : Array (Option Nat)), Ow m k owner → k + hs.length ≤ m + 1 → ∃ o', hs.foldl (stepF m) (some (owner, k)) = some (o', k + hs.length) ∧ Ow m (k + hs.length) o'
  | [], k, owner, W, _ => ⟨owner, rfl, W⟩
  | h :: hs, k, owner, W, hl => by
    rw [List.length_cons] at hl
    obtain ⟨j, e, W2⟩ := W.step hm (by omega) h
    obtain ⟨o', e2, W3⟩ := fold_ow hm hs (k + 1) _ W2 (by omega)
    refine ⟨o', ?_, by rw [List.length_cons, show k + (hs.length + 1) = k + 1 + hs.length by omega]; exact W3⟩
    rw [List.foldl_cons, List.length_cons, show k + (hs.length + 1) = k + 1 + hs.length by omega, ← e2]
    congr 1
    show (SetTable.layClean.free m owner (SetTable.turns m) (SetTable.bits h % (m + 1)) (SetTable.bits h)).bind (fun j => some (owner.setIfInBounds j (some k), k + 1)) = _
    rw [e]
    rfl
theorem lay_ok {m : Nat} (hm : Mk2 m) {hs : Array Int} (hl : hs.size ≤ m + 1) : ∃ owner, SetTable.layClean m hs = some owner ∧ Ow m hs.size owner := by
  have W0 : Ow m 0 (Array.replicate (m + 1) none) := by
    have h0 : ∀ j, j ≤ m → at_ (Array.replicate (m + 1) (none : Option Nat)) j = none := fun j hj => by
      unfold at_
      simp [Array.getD_eq_getD_getElem?, Array.getElem?_replicate, Nat.lt_succ_of_le hj]
    exact ⟨Array.size_replicate .., fun i hi => absurd hi (Nat.not_lt_zero i), fun j i hj e => (by rw [h0 j hj] at e; cases e), fun j j' i hj _ e => (by rw [h0 j hj] at e; cases e)⟩
  obtain ⟨o', e, W⟩ := fold_ow hm hs.toList 0 _ W0 (by rw [Array.length_toList]; omega)
  rw [Nat.zero_add, Array.length_toList] at W
  refine ⟨o', ?_, W⟩
  rw [lay_eq, e]
  rfl
def live (m : Nat) (owner : Array (Option Nat)) : List (Nat × Nat) := (List.range (m + 1)).filterMap fun j => (owner.getD j none).map (j, ·)
theorem mem_live {m k : Nat} {owner : Array (Option Nat)} (W : Ow m k owner) {j i : Nat} : (j, i) ∈ live m owner ↔ j ≤ m ∧ at_ owner j = some i := by
  have hd : ∀ j, j ≤ m → owner.getD j none = at_ owner j := fun j hj => by
    unfold at_
    have : j < owner.size := by rw [W.sz]; omega
    simp [Array.getD_eq_getD_getElem?, this]
  unfold live
  rw [List.mem_filterMap]
  constructor
  · rintro ⟨a, ha, e⟩
    have ham : a ≤ m := Nat.le_of_lt_succ (List.mem_range.mp ha)
    rw [hd a ham] at e
    obtain ⟨x, hx, ex⟩ := Option.map_eq_some_iff.mp e
    cases ex
    exact ⟨ham, hx⟩
  · rintro ⟨hj, e⟩
    exact ⟨j, List.mem_range.mpr (Nat.lt_succ_of_le hj), by rw [hd j hj, e]; rfl⟩
theorem live_ris (m : Nat) (owner : Array (Option Nat)) : L2.Ris ((live m owner).map (·.1)) :=
  (L2.ris_live (fun j => owner.getD j none) (List.range (m + 1)) (by unfold L2.Ris; exact List.pairwise_lt_range)).1
theorem live_perm {m k : Nat} {owner : Array (Option Nat)} (W : Ow m k owner) : ((live m owner).map (·.2)).Perm (List.range k) := by
  have nd1 : ((live m owner).map (·.1)).Nodup := (live_ris m owner).imp fun h => Nat.ne_of_lt h
  have nd : ((live m owner).map (·.2)).Nodup := by
    refine List.pairwise_iff_getElem.mpr fun a b ha hb hab e => ?_
    rw [List.length_map] at ha hb
    simp only [List.getElem_map] at e
    have m1 : ((live m owner)[a].1, (live m owner)[a].2) ∈ live m owner := List.getElem_mem ha
    have m2 : ((live m owner)[b].1, (live m owner)[b].2) ∈ live m owner := List.getElem_mem hb
    obtain ⟨h1, h2⟩ := (mem_live W).mp m1
    obtain ⟨h3, h4⟩ := (mem_live W).mp m2
    have ej := W.inj _ _ _ h1 h3 h2 (by rw [h4, e])
    have := List.pairwise_iff_getElem.mp nd1 a b (by rw [List.length_map]; exact ha) (by rw [List.length_map]; exact hb) hab
    simp only [List.getElem_map] at this
    exact this ej
  refine (List.perm_ext_iff_of_nodup nd List.nodup_range).mpr fun i => ?_
  rw [List.mem_map, List.mem_range]
  constructor
  · rintro ⟨⟨j, i'⟩, hm, rfl⟩
    obtain ⟨h1, h2⟩ := (mem_live W).mp hm
    exact W.lt j i' h1 h2
  · intro hi
    obtain ⟨j, hj, e⟩ := W.all i hi
    exact ⟨(j, i), (mem_live W).mpr ⟨hj, e⟩, rfl⟩
/-- the table laid anew: all elements, by rising places -/
theorem laid_ok {m finger moves : Nat} {led plain : Bool} {hs : Array Int} (hm : Mk2 m) (hl : hs.size ≤ m) : ∃ t order, SetTable.laid m finger moves led plain hs = some (t, order) ∧ order.toList.Perm (List.range hs.size) ∧ L2.Ris t.place.toList ∧ t.fits hs.size = true ∧ t.led = led ∧ t.mask = m ∧ t.dummies = #[] := by
  obtain ⟨owner, e, W⟩ := lay_ok hm (hs := hs) (by omega)
  refine ⟨_, _, by
    unfold SetTable.laid
    rw [e]
    rfl, ?_, ?_, ?_, rfl, rfl, rfl⟩
  · show (((live m owner).map (·.2)).toArray).toList.Perm _
    rw [List.toList_toArray]
    exact live_perm W
  · show L2.Ris (((live m owner).map (·.1)).toArray).toList
    rw [List.toList_toArray]
    exact live_ris m owner
  · have hz : (live m owner).length = hs.size := by
      have := (live_perm W).length_eq
      rw [List.length_map, List.length_range] at this
      exact this
    unfold SetTable.fits SetTable.fill
    show ((((live m owner).map (·.1)).toArray).size == hs.size && decide ((((live m owner).map (·.1)).toArray).size + 0 ≤ m)) = true
    rw [List.size_toArray, List.length_map, hz]
    simp
    omega
theorem above_ok {n : Nat} (h : n ≤ 255) : ∃ k, SetTable.sizeAbove n = k + 1 ∧ Mk2 k ∧ n ≤ k ∧ k + 1 ≤ 256 := by
  have key : ∀ n, n < 256 → (let k := SetTable.sizeAbove n - 1; (SetTable.sizeAbove n == k + 1 && ((k == 7 || k == 15 || k == 31 || k == 63 || k == 127 || k == 255) && (decide (n ≤ k) && decide (k + 1 ≤ 256)))) = true) := by decide +kernel
  have := key n (by omega)
  simp only [Bool.and_eq_true, Bool.or_eq_true, beq_iff_eq, decide_eq_true_eq] at this
  obtain ⟨h1, h2, h3, h4⟩ := this
  refine ⟨SetTable.sizeAbove n - 1, h1, ?_, h3, h4⟩
  unfold Mk2
  omega
end ZU

/-! Z29: the sum of two sets of ints. -/
namespace ZU
open PySem PySem.Spec PyProof.Rows L2
/-- a set with its table -/
structure Tb (w : World) (h : Heap) (a : Addr) (S : Int → Bool) (es : Array (Int × Value)) (ep : Nat) (t : SetTable) : Prop where
  ob : ∃ o, h.get? a = some o ∧ o.ExactSet ∧ o.data = .set es ep t
  g : ∀ e ∈ es.toList, GoodE e
  nd : (es.toList.map keyOf).Nodup
  m : ∀ k, S k = true ↔ k ∈ es.toList.map keyOf
  b : es.size < scanBound
  f : t.fits es.size = true
  r : Ris t.place.toList
  l : w.params.followText "set-order" = true ∨ t.led = true
theorem Tb.of {w : World} {h : Heap} {a : Addr} {S : Int → Bool} {n : Nat} (R : SetR w h a S n) : ∃ es ep t, Tb w h a S es ep t ∧ es.size = n := by
  obtain ⟨o, es, ep, t, ho, hex, hd, g, nd, hm, hb, hf, hn, hr, hl⟩ := R
  exact ⟨es, ep, t, ⟨⟨o, ho, hex, hd⟩, g, nd, hm, hb, hf, hr, hl⟩, hn⟩
theorem Tb.to {w : World} {h : Heap} {a : Addr} {S : Int → Bool} {es : Array (Int × Value)} {ep : Nat} {t : SetTable} (T : Tb w h a S es ep t) : SetR w h a S es.size := by
  obtain ⟨⟨o, ho, hex, hd⟩, g, nd, hm, hb, hf, hr, hl⟩ := T
  exact ⟨o, es, ep, t, ho, hex, hd, g, nd, hm, hb, hf, rfl, hr, hl⟩
theorem Tb.keep {w : World} {h h' : Heap} {a : Addr} {S : Int → Bool} {es : Array (Int × Value)} {ep : Nat} {t : SetTable} (T : Tb w h a S es ep t) (k : ∀ o, h.get? a = some o → h'.get? a = some o) : Tb w h' a S es ep t := by
  obtain ⟨⟨o, ho, hex, hd⟩, g, nd, hm, hb, hf, hr, hl⟩ := T
  exact ⟨⟨o, k o ho, hex, hd⟩, g, nd, hm, hb, hf, hr, hl⟩
theorem filt_perm {es : Array (Int × Value)} {order : Array Nat} (hp : order.toList.Perm (List.range es.size)) : (order.filterMap (es[·]?)).toList.Perm es.toList := by
  have h2 : ∀ n, n ≤ es.toList.length → (List.range n).filterMap (fun i => es.toList[i]?) = es.toList.take n := by
    intro n
    induction n with
    | zero => intro _; rfl
    | succ n ih =>
      intro hn
      rw [List.range_succ, List.filterMap_append, ih (by omega), List.take_succ_eq_append_getElem hn]
      congr 1
      rw [List.filterMap_cons_some (List.getElem?_eq_getElem hn)]
      rfl
  have e1 : (order.filterMap (es[·]?)).toList = order.toList.filterMap fun i => es.toList[i]? := by
    rw [Array.toList_filterMap]
    congr 1
    funext i
    rw [Array.getElem?_toList]
  rw [e1]
  have e3 := h2 es.size (by rw [Array.length_toList]; exact Nat.le_refl _)
  rw [show es.size = es.toList.length from (Array.length_toList).symm, List.take_length, Array.length_toList] at e3
  rw [← e3]
  have := hp.filterMap fun i => es.toList[i]?
  rw [e3] at this ⊢
  exact this
section
variable {P : Program} {w : World} {A : Around} {E : Value → Shared → Prop} {s : Shared} {a : Addr} {S : Int → Bool} {es : Array (Int × Value)} {ep : Nat} {t : SetTable}
/-- other elements, another table, put in the place of a set's -/
theorem Tb.store {es' : Array (Int × Value)} {t' : SetTable} {S' : Int → Bool} {Q : Unit → Shared → Prop} (T : Tb w s.heap a S es ep t) (g : ∀ e ∈ es'.toList, GoodE e) (nd : (es'.toList.map keyOf).Nodup) (m : ∀ k, S' k = true ↔ k ∈ es'.toList.map keyOf) (b : es'.size < scanBound)
    (f : t'.fits es'.size = true) (r : Ris t'.place.toList) (l : w.params.followText "set-order" = true ∨ t'.led = true)
    (hQ : ∀ h', Heap.SameBut a s.heap h' → Tb w h' a S' es' (ep + 1) t' → Q () { s with heap := h' }) : wpAny (model P w) A (storeSet a es' t') Q E s := by
  obtain ⟨o, ho, hex, hd⟩ := T.ob
  refine wpAny_storeSet_of ho hd ?_ (fits_of_scanBound b)
  exact hQ _ (Heap.SameBut.update s.heap a _) ⟨⟨_, store_at ho hd, ⟨hex.1, hex.2.1, hex.2.2⟩, rfl⟩, g, nd, m, b, f, r, l⟩
theorem Tb.state {Q : (Array (Int × Value) × Nat × SetTable) → Shared → Prop} (T : Tb w s.heap a S es ep t) (h : Q (es, ep, t) s) : wpAny (model P w) A (setState a) Q E s := by
  obtain ⟨o, ho, hex, hd⟩ := T.ob
  exact wpAny_setState_of ho hd T.f h
/-- laid anew -/
theorem relay_set {wanted : Nat} (T : Tb w s.heap a S es ep t) (hn : es.size ≤ wanted) (hw : wanted ≤ 255) {Q : Unit → Shared → Prop}
    (hQ : ∀ h' es' ep' t', Heap.SameBut a s.heap h' → Tb w h' a S es' ep' t' → es'.size = es.size → Mk2 t'.mask → wanted ≤ t'.mask → t'.fill = es.size → Q () { s with heap := h' }) : wpAny (model P w) A (setRelay a wanted) Q E s := by
  obtain ⟨k, hk, mk, hwk, hk2⟩ := above_ok hw
  obtain ⟨t', order, e, hp, ris, fit, led, mask, dum⟩ := laid_ok (m := k) (finger := t.finger) (moves := t.movedTo (SetTable.sizeAbove wanted - 1)) (led := t.led) (plain := t.plain) (hs := es.map (·.1)) mk (by rw [Array.size_map]; omega)
  have er : t.relaid (es.map (·.1)) wanted = some (t', order) := by
    unfold SetTable.relaid
    have : SetTable.sizeAbove wanted - 1 = k := by omega
    rw [this] at e ⊢
    exact e
  rw [Array.size_map] at hp fit
  have hperm := filt_perm hp
  have hs2 : (order.filterMap (es[·]?)).size = es.size := by rw [← Array.length_toList, hperm.length_eq, Array.length_toList]
  rw [L2.setRelay_eq]
  refine wpAny_bind (T.state ?_)
  dsimp only
  refine wp_if_neg (by rw [sizeLine_eq]; omega) ?_
  try refine wpAny_bind (wpAny_pure ?_)
  rw [er]
  dsimp only
  refine wpAny_bind ?_
  refine wp_if_neg (by rw [hs2]; simp) ?_
  try refine wpAny_bind (wpAny_pure ?_)
  refine wpAny_pure ?_
  dsimp only
  refine T.store (S' := S) (fun x hx => T.g x (hperm.mem_iff.mp hx)) ((hperm.map keyOf).nodup_iff.mpr T.nd) (fun k => (T.m k).trans (hperm.map keyOf).mem_iff.symm) (by rw [hs2]; exact T.b) (by rw [hs2]; exact fit) ris (by rw [led]; exact T.l) fun h' sb T' => ?_
  refine hQ h' _ _ t' sb T' hs2 (by rw [mask]; exact mk) (by rw [mask]; exact hwk) ?_
  have := fit
  unfold SetTable.fits at this
  rw [Bool.and_eq_true, beq_iff_eq] at this
  unfold SetTable.fill
  rw [dum, this.1]
  rfl
/-- a set that can be merged into -/
def Into (es : Array (Int × Value)) (t : SetTable) : Prop := es.size = 0 → Mk2 t.mask
theorem room_set {more : Nat} (T : Tb w s.heap a S es ep t) (hi : Into es t) (hl : es.size + more ≤ 127) {Q : Unit → Shared → Prop}
    (hQ : ∀ h' es' ep' t', Heap.SameBut a s.heap h' → Tb w h' a S es' ep' t' → es'.size = es.size → Into es' t' → more ≤ t'.mask → Q () { s with heap := h' }) : wpAny (model P w) A (setRoomFor a more) Q E s := by
  have hps : t.place.size = es.size := by
    have := T.f
    unfold SetTable.fits at this
    rw [Bool.and_eq_true, beq_iff_eq] at this
    exact this.1
  unfold setRoomFor
  refine wpAny_bind (T.state ?_)
  dsimp only
  unfold SetTable.roomFor
  split
  · rename_i wanted hw
    split at hw
    · have e : (t.place.size + more) * 2 = wanted := Option.some.inj hw
      refine relay_set T (by omega) (by omega) fun h' es' ep' t' sb T' hs mk hwm hf => ?_
      exact hQ h' es' ep' t' sb T' hs (fun _ => mk) (by omega)
    · cases hw
  · rename_i hw
    split at hw
    · exact (hw _ rfl).elim
    · rename_i hc
      refine wpAny_pure ?_
      exact hQ s.heap es ep t (Heap.SameBut.refl a s.heap) T rfl hi (by omega)
theorem quiet_ints : ∀ (sets : List Addr) {Q : Bool → Shared → Prop}, (∀ b ∈ sets, ∃ T n, SetR w s.heap b T n) → Q true s → wpAny (model P w) A (setsQuiet sets) Q E s := by
  intro sets Q hs hq
  unfold setsQuiet
  refine wpAny_bind (wpAny_forIn_list _ (fun l (r : Option Bool × PUnit) s' => r.1 = none ∧ s' = s ∧ ∀ b ∈ l, ∃ T n, SetR w s.heap b T n) _ (fun x rest b s₁ hI => ?_) (fun b s₁ hI => ?_) sets _ ⟨rfl, rfl, hs⟩)
  · obtain ⟨h1, rfl, h3⟩ := hI
    obtain ⟨T, n, R⟩ := h3 x List.mem_cons_self
    obtain ⟨es, ep, t, Tx, _⟩ := Tb.of R
    unfold setEntries
    refine wpAny_bind (wpAny_bind (Tx.state (wpAny_pure ?_)))
    refine wpAny_bind (MeetsSeq2.wpAny_forIn_array _ (fun l (r : Option Bool × PUnit) s' => r.1 = none ∧ s' = s₁ ∧ ∀ e ∈ l, GoodE e) _ (fun y rest2 b2 s₂ hJ => ?_) (fun b2 s₂ hJ => ?_) es _ ⟨rfl, rfl, Tx.g⟩)
    · obtain ⟨j1, rfl, j3⟩ := hJ
      obtain ⟨k, tk, e1, e2⟩ := j3 y List.mem_cons_self
      obtain ⟨y1, y2⟩ := y
      simp only at e1
      subst e1
      exact wpAny_pure ⟨rfl, rfl, fun e he => j3 e (List.mem_cons_of_mem _ he)⟩
    · obtain ⟨j1, rfl, j3⟩ := hJ
      obtain ⟨b2a, b2b⟩ := b2
      simp only at j1
      subst j1
      exact wpAny_pure ⟨rfl, rfl, fun b hb => h3 b (List.mem_cons_of_mem _ hb)⟩
  · obtain ⟨h1, rfl, h3⟩ := hI
    obtain ⟨ba, bb⟩ := b
    simp only at h1
    subst h1
    exact wpAny_pure hq
/-- the elements, in some order; the filled set's table may be marked -/
theorem walk_unseen {o : Addr} {T : Int → Bool} {eo : Array (Int × Value)} {epo : Nat} {to : SetTable} (Ts : Tb w s.heap a S es ep t) (To : Tb w s.heap o T eo epo to) (hne : o ≠ a) {Q : Array (Int × Value) → Shared → Prop}
    (hQ : ∀ h' vs ep' t', Heap.SameBut a s.heap h' → Tb w h' a S es ep' t' → vs.toList.Perm eo.toList → Q vs { s with heap := h' }) : wpAny (model P w) A (setWalkUnseen o [a] (some a)) Q E s := by
  have hst : ∀ {Q' : Array (Int × Value) → Shared → Prop}, (w.params.followText "set-order" = true ∨ (!to.plain && decide (eo.size > 1)) = false) → (∀ vs, vs.toList.Perm eo.toList → Q' vs s) → wpAny (model P w) A (setWalk o) Q' E s := by
    intro Q' hc hq
    unfold setWalk
    refine wpAny_bind (To.state ?_)
    dsimp only
    refine wpAny_bind (wpAny_byText ?_)
    cases hb : w.params.followText "set-order" with
    | true =>
      refine wp_if_pos rfl ?_
      exact wpAny_bind (wpAny_askSetting (wpAny_pure (hq _ (pick_perm _ _))))
    | false =>
      have hd : (!to.plain && decide (eo.size > 1)) = false := hc.resolve_left (by rw [hb]; exact Bool.false_ne_true)
      have hl : to.led = true := To.l.resolve_left (by rw [hb]; exact Bool.false_ne_true)
      refine wp_if_neg Bool.false_ne_true ?_
      try refine wpAny_bind (wpAny_pure ?_)
      refine wp_if_neg (by show ¬ ((!to.plain && decide (eo.size > 1)) = true); rw [hd]; exact Bool.false_ne_true) ?_
      try refine wpAny_bind (wpAny_pure ?_)
      refine wpAny_bind (wpAny_of_eq (a := ()) ?_ (wpAny_pure (hq _ (List.Perm.refl _))))
      show (if (!to.led && decide (eo.size > 1)) = true then unsupported "set:maker-not-led" else pure ()) = pure ()
      rw [hl]
      rfl
  unfold setWalkUnseen
  refine wpAny_bind (To.state ?_)
  dsimp only
  refine wpAny_bind (wpAny_byText ?_)
  by_cases hc : (w.params.followText "set-order" || (to.led && to.plain) || decide (eo.size ≤ 1)) = true
  · refine wp_if_pos hc ?_
    refine hst ?_ fun vs hp => hQ s.heap vs ep t (Heap.SameBut.refl a s.heap) Ts hp
    simp only [Bool.or_eq_true, Bool.and_eq_true, decide_eq_true_eq] at hc
    rcases hc with (hc | hc) | hc
    · exact .inl hc
    · right
      rw [hc.2]
      rfl
    · right
      simp
      omega
  · refine wp_if_neg hc ?_
    try refine wpAny_bind (wpAny_pure ?_)
    refine wpAny_bind (quiet_ints [o, a] (fun b hb => ?_) ?_)
    · rcases List.mem_cons.mp hb with e | e
      · exact ⟨T, _, e ▸ To.to⟩
      · have e' : b = a := by simpa using e
        exact ⟨S, _, e' ▸ Ts.to⟩
    refine wp_if_neg (by simp) ?_
    try refine wpAny_bind (wpAny_pure ?_)
    refine wpAny_bind (wpAny_rule ?_)
    refine wpAny_bind (Ts.state ?_)
    dsimp only
    have hl : to.led = true ∨ w.params.followText "set-order" = true := To.l.symm
    split
    · refine wpAny_bind (Ts.store (S' := S) Ts.g Ts.nd Ts.m Ts.b ?_ Ts.r ?_ fun h' sb T' => ?_)
      · exact Ts.f
      · rcases Ts.l with q | q
        · exact .inl q
        · rcases hl with z | z
          · right
            show (t.led && to.led) = true
            rw [q, z]
            rfl
          · exact .inl z
      · exact wpAny_pure (hQ h' eo _ _ sb T' (List.Perm.refl _))
    · refine wpAny_bind (wpAny_pure ?_)
      exact wpAny_pure (hQ s.heap eo ep t (Heap.SameBut.refl a s.heap) Ts (List.Perm.refl _))
/-- s takes o's elements -/
theorem merge_set {o : Addr} {T : Int → Bool} {eo : Array (Int × Value)} {epo : Nat} {to : SetTable} {each : Sem Unit} (Ts : Tb w s.heap a S es ep t) (hi : Into es t) (To : Tb w s.heap o T eo epo to) (hne : o ≠ a) (hl : es.size + eo.size ≤ 120)
    (he : ∀ (h' : Heap) (Q' : Unit → Shared → Prop), Tb w h' o T eo epo to → Q' () { s with heap := h' } → wpAny (model P w) A each Q' E { s with heap := h' }) {Q : Unit → Shared → Prop}
    (hQ : ∀ h' es' ep' t', Heap.SameBut a s.heap h' → Tb w h' a (fun k => S k || T k) es' ep' t' → Into es' t' → es'.size ≤ es.size + eo.size → Q () { s with heap := h' }) : wpAny (model P w) A (setMerge a o each) Q E s := by
  unfold setMerge
  refine wp_if_neg (by simpa using Ne.symm hne) ?_
  try refine wpAny_bind (wpAny_pure ?_)
  refine wpAny_bind (To.state ?_)
  dsimp only
  by_cases h0 : eo.isEmpty = true
  · refine wp_if_pos h0 ?_
    have hz : eo.toList = [] := by
      have : eo = #[] := Array.isEmpty_iff.mp h0
      rw [this]
    have hT : ∀ k, T k = false := fun k => by
      cases q : T k with
      | false => rfl
      | true =>
        have := (To.m k).mp q
        rw [hz] at this
        cases this
    refine wpAny_pure (hQ s.heap es ep t (Heap.SameBut.refl a s.heap) ?_ hi (by omega))
    exact ⟨Ts.ob, Ts.g, Ts.nd, fun k => by rw [hT k, Bool.or_false]; exact Ts.m k, Ts.b, Ts.f, Ts.r, Ts.l⟩
  refine wp_if_neg h0 ?_
  try refine wpAny_bind (wpAny_pure ?_)
  refine wpAny_bind (room_set Ts hi (by omega) fun h1 es1 ep1 t1 sb1 T1 hs1 hi1 hm1 => ?_)
  have To1 : Tb w h1 o T eo epo to := To.keep fun ob e => by rw [sb1.2 o hne]; exact e
  refine wpAny_bind (Tb.state (s := { s with heap := h1 }) T1 ?_)
  dsimp only
  have hpl : t1.place.size = es1.size := by
    have := T1.f
    unfold SetTable.fits at this
    rw [Bool.and_eq_true, beq_iff_eq] at this
    exact this.1
  have hep : eo.size ≠ 0 := fun z => h0 (by rw [Array.isEmpty_iff_size_eq_zero]; exact z)
  have mt : t1.fill = 0 → es1.size = 0 ∧ ∀ k, S k = false := fun hf => by
    unfold SetTable.fill at hf
    have hz : es1.size = 0 := by omega
    refine ⟨hz, fun k => ?_⟩
    cases q : S k with
    | false => rfl
    | true =>
      have := (T1.m k).mp q
      rw [show es1.toList = [] from List.eq_nil_of_length_eq_zero (by rw [Array.length_toList]; exact hz)] at this
      cases this
  have led : w.params.followText "set-order" = true ∨ (t1.led && to.led) = true := by
    rcases T1.l with q | q
    · exact .inl q
    · rcases To.l with z | z
      · exact .inl z
      · right
        rw [q, z]
        rfl
  cases hr : t1.road to with
  | slotForSlot =>
    dsimp only
    have hf : t1.fill = 0 := by
      unfold SetTable.road at hr
      split at hr
      · cases hr
      · rename_i h; simpa using h
    obtain ⟨z1, z2⟩ := mt hf
    refine T1.store (s := { s with heap := h1 }) (S' := fun k => S k || T k) To.g To.nd (fun k => by rw [z2 k, Bool.false_or]; exact To.m k) To.b ?_ To.r led fun h' sb T' => ?_
    · exact To.f
    · exact hQ h' eo _ _ (sb1.trans sb) T' (fun z => absurd z hep) (by omega)
  | clean =>
    dsimp only
    have hf : t1.fill = 0 := by
      unfold SetTable.road at hr
      split at hr
      · cases hr
      · rename_i h; simpa using h
    obtain ⟨z1, z2⟩ := mt hf
    obtain ⟨t', order, e, hp, ris, fit, led', mask, dum⟩ := laid_ok (m := t1.mask) (finger := t1.finger) (moves := t1.moves) (led := t1.led && to.led) (plain := t1.plain && to.plain) (hs := eo.map (·.1)) (hi1 z1) (by rw [Array.size_map]; exact hm1)
    rw [Array.size_map] at hp fit
    have hperm := filt_perm hp
    have hs2 : (order.filterMap (eo[·]?)).size = eo.size := by rw [← Array.length_toList, hperm.length_eq, Array.length_toList]
    rw [e]
    refine wpAny_bind ?_
    show wpAny _ _ (do
      let es' := order.filterMap (eo[·]?)
      if es'.size != eo.size then unsupported "internal:set-table-lost-an-element"
      pure (es', t') : Sem (Array (Int × Value) × SetTable)) _ _ _
    refine wp_if_neg (by rw [hs2]; simp) ?_
    try refine wpAny_bind (wpAny_pure ?_)
    refine wpAny_pure ?_
    dsimp only
    refine T1.store (s := { s with heap := h1 }) (S' := fun k => S k || T k) (fun x hx => To.g x (hperm.mem_iff.mp hx)) ((hperm.map keyOf).nodup_iff.mpr To.nd) (fun k => by rw [z2 k, Bool.false_or]; exact (To.m k).trans (hperm.map keyOf).mem_iff.symm) (by rw [hs2]; exact To.b) (by rw [hs2]; exact fit) ris (by rw [led']; exact led) fun h' sb T' => ?_
    exact hQ h' _ _ _ (sb1.trans sb) T' (fun z => absurd (hs2.symm.trans z) hep) (by rw [hs2]; omega)
  | oneByOne =>
    dsimp only
    refine wpAny_bind (walk_unseen (s := { s with heap := h1 }) T1 To1 hne fun h2 vs ep2 t2 sb2 T2 hp2 => ?_)
    have hgv : ∀ e ∈ vs.toList, GoodE e := fun e he => To.g e (hp2.mem_iff.mp he)
    have hlen : vs.toList.length = eo.size := by rw [hp2.length_eq, Array.length_toList]
    refine wpAny_bind (MeetsSeq2.wpAny_forIn_array _ (fun l (r : PUnit) s' => ∃ h3 es3 ep3 t3 done, s' = { s with heap := h3 } ∧ Heap.SameBut a s.heap h3 ∧ Tb w h3 a (fun k => S k || decide (k ∈ done.map keyOf)) es3 ep3 t3 ∧ vs.toList = done ++ l ∧ es3.size ≤ es.size + done.length ∧ es.size ≤ es3.size) _ (fun e rest b s₁ hI => ?_) (fun b s₁ hI => ?_) vs _ ⟨h2, es1, ep2, t2, [], rfl, sb1.trans sb2, ⟨T2.ob, T2.g, T2.nd, fun k => by simp only [List.map_nil, List.not_mem_nil, decide_false, Bool.or_false]; exact T2.m k, T2.b, T2.f, T2.r, T2.l⟩, rfl, by rw [hs1]; simp, by rw [hs1]; exact Nat.le_refl _⟩)
    · obtain ⟨h3, es3, ep3, t3, done, rfl, sb3, T3, hd, hz, hz2⟩ := hI
      obtain ⟨k, tk, e1, e2⟩ := hgv e (by rw [hd]; simp)
      obtain ⟨eh, ev⟩ := e
      simp only at e1 e2
      subst e1 e2
      have hdl : done.length + 1 ≤ eo.size := by
        have := congrArg List.length hd
        rw [hlen, List.length_append, List.length_cons] at this
        omega
      refine wpAny_bind (wpAny_holding ?_)
      refine setR_add_hashed (s := { s with heap := h3 }) T3.to (by unfold scanBound; omega) fun h4 sb4 R4 => ?_
      obtain ⟨es4, ep4, t4, T4, hn4⟩ := Tb.of R4
      have To4 : Tb w h4 o T eo epo to := To.keep fun ob e => by rw [sb4.2 o hne, sb3.2 o hne]; exact e
      refine wpAny_bind (he h4 _ To4 ?_)
      refine wpAny_bind (Tb.state (s := { s with heap := h4 }) To4 ?_)
      refine wp_if_neg (by simp) ?_
      try refine wpAny_bind (wpAny_pure ?_)
      refine wpAny_pure ⟨h4, es4, ep4, t4, done ++ [(hashInt k, Value.int k tk)], rfl, sb3.trans sb4, ?_, by rw [hd, List.append_assoc]; rfl, ?_, ?_⟩
      · refine ⟨T4.ob, T4.g, T4.nd, fun j => ?_, T4.b, T4.f, T4.r, T4.l⟩
        rw [← T4.m j]
        simp only [List.map_append, List.map_cons, List.map_nil, List.mem_append, List.mem_cons, List.not_mem_nil, or_false, Bool.or_eq_true, decide_eq_true_eq]
        have ek : keyOf (hashInt k, Value.int k tk) = k := rfl
        rw [ek]
        constructor
        · rintro (h | h | h)
          · exact .inl (.inl h)
          · exact .inl (.inr h)
          · exact .inr h
        · rintro ((h | h) | h)
          · exact .inl h
          · exact .inr (.inl h)
          · exact .inr (.inr h)
      · rw [hn4, List.length_append]
        simp only [List.length_cons, List.length_nil]
        split <;> omega
      · rw [hn4]
        split <;> omega
    · obtain ⟨h3, es3, ep3, t3, done, rfl, sb3, T3, hd, hz, hz2⟩ := hI
      rw [List.append_nil] at hd
      have hdone : done.length = eo.size := by rw [← hd]; exact hlen
      refine wpAny_pure (hQ h3 es3 ep3 t3 sb3 ⟨T3.ob, T3.g, T3.nd, fun k => ?_, T3.b, T3.f, T3.r, T3.l⟩ (fun z => ?_) (by omega))
      · rw [← T3.m k]
        simp only [Bool.or_eq_true, decide_eq_true_eq]
        have : T k = true ↔ k ∈ done.map keyOf := by
          rw [To.m k, ← hd]
          exact (hp2.map keyOf).mem_iff.symm
        rw [this]
      · exfalso
        have hfill : t1.fill ≠ 0 := by
          intro z0
          unfold SetTable.road at hr
          rw [if_neg (by rw [z0]; decide)] at hr
          split at hr <;> cases hr
        -- an element was put in
        have hv : vs.toList ≠ [] := fun q => hep (by rw [← hlen, q]; rfl)
        obtain ⟨e, rest, hv2⟩ := List.exists_cons_of_ne_nil hv
        have : keyOf e ∈ done.map keyOf := List.mem_map_of_mem (by rw [← hd, hv2]; exact List.mem_cons_self)
        have hm := (T3.m (keyOf e)).mp (by simp only [Bool.or_eq_true, decide_eq_true_eq]; exact .inr this)
        rw [show es3.toList = [] from List.eq_nil_of_length_eq_zero (by rw [Array.length_toList]; exact z)] at hm
        cases hm
end
end ZU

/-! Z30: a | b of sets of ints; sorted(set(a) | set(b)). -/
namespace ZU
open PySem PySem.Spec PyProof.Rows L2
theorem slot_or : Slot "set" "__or__" "set.__or__" :=
  .of (owner := "set") (n := "__or__") (by rw [typeLookup_type, builtinLookup_eq_fast]; kernel_rfl) (by decide +kernel) (by decide +kernel) (by decide +kernel)
    (by first | exact .inl (by decide +kernel) | exact .inr (by decide +kernel)) (by rw [isSubtype_type]; kernel_rfl)
theorem entry_or : entryFor table "set.__or__" = some Builtin.«frozenset.__or__» :=
  entryFor_alias (id' := "frozenset.__or__") (by kernel_rfl) rfl (by decide +kernel) (by kernel_rfl)
theorem args_or (a b : Value) : argsOk "set.__or__" ⟨[a, b], []⟩ := by unfold argsOk; kernel_rfl
theorem look_ror : ∃ r, typeLookup (.type "set") (dunderR "or") = pure r := ⟨some (.builtin "set.__ror__"), by rw [typeLookup_type, builtinLookup_eq_fast]; kernel_rfl⟩
theorem fills_or : fillsNumberSlot (.type "set") "or" = pure true := by
  obtain ⟨r, hr⟩ := look_ror
  exact fillsNumberSlot_of slot_or.lookup (by decide +kernel) hr
section
variable {P : Program} {w : World} {A : Around} {E : Value → Shared → Prop} {s : Shared} {a b : Addr}
theorem any_set {Q : Bool → Shared → Prop} (h : s.TypeIs (.ref a) "set") (hq : Q true s) : wpAny (model P w) A (Builtin.Frozenset.isAnySet (.ref a)) Q E s := by
  unfold Builtin.Frozenset.isAnySet
  refine wpAny_bind (wpAny_isInstance (b := true) h sub_set_self ?_)
  exact wpAny_pure hq
theorem tb_type {S : Int → Bool} {es : Array (Int × Value)} {ep : Nat} {t : SetTable} (T : Tb w s.heap a S es ep t) : s.TypeIs (.ref a) "set" := by
  obtain ⟨o, ho, hex, hd⟩ := T.ob
  exact ⟨o, ho, hex.1⟩
theorem fresh_tb (w : World) : Tb w (s.heap.push { cls := .type "set", dict := none, data := .set #[] 0 (.fresh 0 0 (!w.params.followText "set-order")) }) s.heap.objs.size (fun _ => false) #[] 0 (.fresh 0 0 (!w.params.followText "set-order")) := by
  refine ⟨⟨_, Heap.get?_push_size _ rfl, ⟨rfl, rfl, rfl⟩, rfl⟩, fun e h => by simp at h, List.nodup_nil, fun k => by simp, by decide, rfl, List.Pairwise.nil, ?_⟩
  show _ ∨ (!w.params.followText "set-order") = true
  cases w.params.followText "set-order"
  · exact .inr rfl
  · exact .inl rfl
theorem or_sets {S T : Int → Bool} {ea eb : Array (Int × Value)} {epa epb : Nat} {ta tb : SetTable} (Ta : Tb w s.heap a S ea epa ta) (Tb' : Tb w s.heap b T eb epb tb) (hne : b ≠ a) (hl : ea.size + eb.size ≤ 120) {Q : Value → Shared → Prop}
    (hQ : ∀ h' n, (∀ c u, s.heap.get? c = some u → h'.get? c = some u) → SetR w h' s.heap.objs.size (fun k => S k || T k) n → n ≤ ea.size + eb.size → Q (.ref s.heap.objs.size) { s with heap := h' }) :
    wpAny (model P w) A (binaryOp .BitOr (.ref a) (.ref b)) Q E s := by
  refine wpAny_binaryOp_same (tb_type Ta) (tb_type Tb') fills_or slot_or ?_
  refine wpAny_call_entry slot_or (tb_type Ta) entry_or ?_ (args_or _ _)
  unfold Builtin.«frozenset.__or__»
  refine wpAny_bind (m := Builtin.Frozenset.slot1 "__or__" { pos := [Value.ref a, Value.ref b] }) ?_
  refine wpAny_of_eq (a := (Value.ref a, Value.ref b)) (by rfl) ?_
  dsimp only
  have ha := tb_type Ta
  have hb := tb_type Tb'
  refine wpAny_bind ?_
  refine wpAny_bind (any_set ha ?_)
  try refine wp_if_pos rfl ?_
  refine any_set hb ?_
  refine wp_if_neg (by decide) ?_
  refine wpAny_bind (wpAny_pure ?_)
  refine wpAny_bind ?_
  show wpAny _ _ (do
      let result ← Builtin.Frozenset.copyOf a
      if (Value.ref b) != .ref a then holding [result] (Builtin.Frozenset.updateFrom (toString "frozenset." ++ toString "__or__") (← Builtin.Frozenset.addrOf result) (.ref b))
      return result : Sem Value) _ _ _
  unfold Builtin.Frozenset.copyOf
  refine wpAny_bind (wpAny_bind ?_)
  unfold Builtin.Frozenset.baseOf
  refine wpAny_bind (wpAny_isInstance (b := true) ha sub_set_self ?_)
  refine wpAny_pure ?_
  refine wpAny_bind (PpSet.newSet_ok ?_)
  have haD : a ≠ s.heap.objs.size := by
    obtain ⟨o, ho, -, -⟩ := Ta.ob
    exact Nat.ne_of_lt (Heap.lt_size ho)
  have hbD : b ≠ s.heap.objs.size := by
    obtain ⟨o, ho, -, -⟩ := Tb'.ob
    exact Nat.ne_of_lt (Heap.lt_size ho)
  generalize hD : s.heap.objs.size = D at *
  have T0 := fresh_tb (s := s) w
  rw [hD] at T0
  have Ta1 := Ta.keep (h' := s.heap.push { cls := .type "set", dict := none, data := .set #[] 0 (.fresh 0 0 (!w.params.followText "set-order")) }) fun o e => Heap.get?_push_of_some _ e
  have Tb1 := Tb'.keep (h' := s.heap.push { cls := .type "set", dict := none, data := .set #[] 0 (.fresh 0 0 (!w.params.followText "set-order")) }) fun o e => Heap.get?_push_of_some _ e
  generalize hh : s.heap.push { cls := .type "set", dict := none, data := .set #[] 0 (.fresh 0 0 (!w.params.followText "set-order")) } = h1 at *
  have keep1 : ∀ (c : Addr) (u : Obj), s.heap.get? c = some u → c ≠ D ∧ h1.get? c = some u := fun c u e => ⟨by rw [← hD]; exact Nat.ne_of_lt (Heap.lt_size e), by rw [← hh]; exact Heap.get?_push_of_some _ e⟩
  refine wpAny_bind (wpAny_pure ?_)
  refine wpAny_bind (merge_set (s := { s with heap := h1 }) T0 (fun _ => .inl rfl) Ta1 haD (by simp; omega) (fun h' Q' _ hq => wpAny_pure hq) fun h2 es2 ep2 t2 sb2 T2 hi2 hn2 => ?_)
  refine wpAny_pure ?_
  dsimp only
  have Tb2 := Tb1.keep (h' := h2) fun o e => by rw [sb2.2 b hbD]; exact e
  refine wp_if_pos (by simpa using hne) ?_
  refine wpAny_bind (wpAny_pure ?_)
  refine wpAny_bind (wpAny_holding ?_)
  unfold Builtin.Frozenset.updateFrom
  refine wpAny_bind (any_set (s := { s with heap := h2 }) (tb_type Tb2) ?_)
  refine wp_if_pos rfl ?_
  refine wpAny_bind (wpAny_pure ?_)
  unfold Builtin.Frozenset.merge setEpoch
  refine wpAny_bind (wpAny_bind (Tb.state (s := { s with heap := h2 }) Tb2 (wpAny_pure ?_)))
  refine merge_set (s := { s with heap := h2 }) T2 hi2 Tb2 hbD (by simp at hn2; omega) (fun h' Q' Tq hq => ?_) fun h3 es3 ep3 t3 sb3 T3 hi3 hn3 => ?_
  · unfold Builtin.Frozenset.unchanged setEpoch
    refine wpAny_bind (wpAny_bind (Tb.state (s := { s with heap := h' }) Tq (wpAny_pure ?_)))
    refine wp_if_neg (by simp) ?_
    exact wpAny_pure hq
  · refine wpAny_pure ?_
    dsimp only
    have T4 : Tb w h3 D (fun k => S k || T k) es3 ep3 t3 := by
      refine ⟨T3.ob, T3.g, T3.nd, fun k => ?_, T3.b, T3.f, T3.r, T3.l⟩
      have := T3.m k
      simpa using this
    exact wpAny_pure ⟨_, rfl, by simp, hQ h3 _ (fun c u e => by rw [sb3.2 c (keep1 c u e).1, sb2.2 c (keep1 c u e).1]; exact (keep1 c u e).2) T4.to (by simp at hn2; omega)⟩
end
end ZU

/-! Z31: set(xs) of a list of ints, with its table; sorted(set(a)), sorted(set(a) | set(b)). -/
namespace ZU
open PySem PySem.Spec PyProof.Rows L2
section
variable {P : Program} {w : World} {A : Around} {E : Value → Shared → Prop} {s : Shared} {a b : Addr}
/-- a new set's object -/
def nS (w : World) : Obj := { cls := .type "set", dict := none, data := .set #[] 0 (.fresh 0 0 (!w.params.followText "set-order")) }
/-- what set.__init__ leaves -/
def Done (w : World) (s : Shared) (ns : List Int) (s2 : Shared) : Prop :=
  ∃ h' tk c, s2 = { s with heap := h', toks := tk } ∧ SetR w h' s.heap.objs.size (fun j => decide (j ∈ ns)) c ∧ c ≤ ns.length ∧ ∀ b o, s.heap.get? b = some o → h'.get? b = some o
theorem init_lst {l : Addr} {items : Array Value} (ns : List Int) (hh : A.handled = none) (hl : s.heap.IsList l items) (hit : IntsAre items.toList ns) (hsz : items.size = ns.length) (hb : ns.length + 1 < scanBound) {Q : Unit → Shared → Prop} (hQ : ∀ s2, Done w s ns s2 → Q () s2) :
    wpAny (model P w) A (pyIter (.ref l)) (fun it s' => wpAny (model P w) A (do let _ ← runValue (.builtin "set.update.loop" ⟨[.ref s.heap.objs.size, it], []⟩); pure ()) Q E s') E { s with heap := s.heap.push (nS w) } := by
  obtain ⟨ol, hol, hcl, nl, hdl⟩ := hl
  have hlS : l < s.heap.objs.size := Heap.lt_size hol
  have hl1 : (s.heap.push (nS w)).IsList l items := ⟨ol, Heap.get?_push_of_some _ hol, hcl, nl, hdl⟩
  have hz : (s.heap.push (nS w)).objs.size = s.heap.objs.size + 1 := Heap.size_push ..
  refine wpAny_pyIter_list hl1 ?_
  refine wpAny_bind (wpAny_runValue ?_)
  have hh1 : A.in1.handled = none := by simp [hh]
  refine set_update_ints ((Walks.list hh1 _ l (by rw [hz]; exact Nat.ne_of_lt (Nat.lt_succ_of_lt hlS)) items).toS) s.heap.objs.size (by rw [hz]; simp only [List.mem_cons, List.not_mem_nil, or_false, not_or]; exact ⟨Nat.ne_of_lt (Nat.lt_succ_self _), Nat.ne_of_gt hlS⟩) ns hsz hb (fun i v hv => ?_) (items.size - 0) 0 _ (by omega) (Nat.zero_le _)
    ⟨⟨_, Heap.get?_push_size _ rfl, rfl, rfl⟩, hl1.push _⟩ ⟨0, Nat.le_refl 0, setR_new_at (Heap.get?_push_of_some _ (Heap.get?_push_size _ rfl))⟩ fun s' c' hm hc' hS' => ?_
  · have hi : i < ns.length := by rw [← hsz]; exact (Array.getElem?_eq_some_iff.mp hv).1
    obtain ⟨t, e⟩ := PyProof.Rows.IntsAre.int_at hit i v (by rw [Array.getElem?_toList]; exact hv)
    refine ⟨ns[i], t, List.getElem?_eq_getElem hi, ?_⟩
    rw [e, List.getD_eq_getElem?_getD, List.getElem?_eq_getElem hi] <;> rfl
  · obtain ⟨h', g2, d', tk', os'⟩ := s'
    have eg : g2 = s.gens := hm.gens
    have ed : d' = s.drawn := hm.drawn
    have eo : os' = s.os := hm.os
    subst eg ed eo
    show wpAny _ _ _ _ _ _
    refine wpAny_pure ?_
    have h0 : Done w s ns { s with heap := h', toks := tk' } := ⟨h', tk', c', rfl, hS', by rw [← hsz]; exact hc', fun b o e => by
      have hb0 : b < s.heap.objs.size := Heap.lt_size e
      refine hm.heap b o ?_ (Heap.get?_push_of_some _ (Heap.get?_push_of_some _ e))
      rw [hz]
      simp only [List.mem_cons, List.not_mem_nil, or_false, not_or]
      exact ⟨Nat.ne_of_lt hb0, Nat.ne_of_lt (Nat.lt_succ_of_lt hb0)⟩⟩
    exact hQ _ h0
theorem set_lstI {l : Addr} {items : Array Value} (ns : List Int) {Q : Value → Shared → Prop} (hh : A.handled = none) (hl : s.heap.IsList l items) (hit : IntsAre items.toList ns) (hsz : items.size = ns.length) (hb : ns.length + 1 < scanBound)
    (h : ∀ (h' : Heap) (tk c : Nat), SetR w h' s.heap.objs.size (fun j => decide (j ∈ ns)) c → c ≤ ns.length → (∀ b o, s.heap.get? b = some o → h'.get? b = some o) → Q (.ref s.heap.objs.size) { s with heap := h', toks := tk }) :
    wpAny (model P w) A (call (.type "set") [.ref l]) Q E s := by
  obtain ⟨c, tl, hmro⟩ := F.called_set.mro
  have hmade := F.called_set.made
  have hsub := F.called_set.sub
  refine wpAny_call (codeAny_of_tree ?_)
  refine wpAny_pure ⟨Code.quiet_builtin _ (by decide +kernel), codeAny_builtin F.entry_type_call ?_⟩
  rw [Around.under_plain (weight_type_call_type "set" [.ref l] []) rfl]
  have h1 := F.called_set.notType
  have h2 := F.called_set.canCreate
  have hct := F.typeCall_set_1 (.ref l)
  repeat (any_goals (first | assumption | wp_step))
  refine codeAny_mono (code_set_led1 (.ref l) (E := E) (Q₁ := fun obj s₁ => obj = .ref s.heap.objs.size ∧ s₁ = { s with heap := s.heap.push (nS w) }) ⟨rfl, rfl⟩) fun r s₁ hr => ?_
  match r, hr with
  | .error e, hr => exact hr
  | .ok (.ret obj), hr =>
    obtain ⟨rfl, rfl⟩ := hr
    have hS : (s.heap.push (nS w)).get? s.heap.objs.size = some (nS w) := Heap.get?_push_size _ rfl
    have hT : Shared.TypeIs { s with heap := s.heap.push (nS w) } (.ref s.heap.objs.size) "set" := ⟨_, hS, rfl⟩
    have hli := F.called_set.init.lookup
    have hbi := F.called_set.init.bind (.ref s.heap.objs.size)
    repeat (any_goals (first | assumption | wp_step))
    refine codeAny_mono (codeAny_call_builtin (R := wants (fun r s₂ => r = .none ∧ Done w s ns s₂) E) F.called_set.init.plain F.entry_set_init (check_set_init_1 hT ?_)) fun r₂ s₂ hr₂ => ?_
    · have hsls := F.sub_list_set
      have hslf := F.sub_list_frozenset
      have hne : (Value.type "list" == Value.type "dict") = false := by decide
      have hl0 := hl
      obtain ⟨ol, hol, hcl, nl, hdl⟩ := hl0
      obtain ⟨ocls, odict, odata, oslots⟩ := ol
      simp only at hcl hdl
      subst hcl; subst hdl
      have hol' : (s.heap.push (nS w)).get? l = some { cls := .type "list", dict := odict, data := .seq items nl, slots := oslots } := Heap.get?_push_of_some _ hol
      unfold Builtin.«set.__init__» noKeywords Builtin.Frozenset.updateFrom
      generalize hPI : pyIter = PI
      generalize hRV : @runValue = RV
      wp_walk
      subst hPI hRV
      exact init_lst (A := A.in1.in1) ns (by simp [hh]) hl hit hsz hb fun s2 hd => wpAny_pure ⟨rfl, hd⟩
    · match r₂, hr₂ with
      | .error e, hr₂ => exact hr₂
      | .ok (.ret r), hr₂ =>
        obtain ⟨rfl, h', tk, c', rfl, hS', hc', hk'⟩ := hr₂
        repeat (any_goals (first | assumption | wp_step))
        exact h _ _ _ hS' hc' hk'
end
end ZU

/-! Z32: sorted(set(a)), sorted(set(a) | set(b)). -/
namespace Z
open PySem PySem.Spec PyProof.Rows L2 ZU
theorem setR_len {w : World} {h : Heap} {a : Addr} {S : Int → Bool} {n : Nat} {ns : List Int} (R : SetR w h a S n) (e : ∀ k, S k = true ↔ k ∈ ns) : n = (unl ns).length := by
  obtain ⟨es, ep, t, T, hn⟩ := Tb.of R
  have := unl_len (ns := ns) T.nd fun k => (T.m k).symm.trans (e k)
  rw [List.length_map, Array.length_toList] at this
  omega
section
variable {X : Cx} {c : Ctx} {W : XK} {mods m1 m2 m3 : List Nat} {md : Bool} {e a b o : Expr} {es elts : List Expr} {pos p p1 p2 q q1 q2 q3 : Pos} {ma mb : M D} {ta tb : TE}
/-- the sorted list of a set, made -/
theorem srt_fin {pins : List (Addr × Obj)} {σ : L2.St} {H : Hp} {s : Shared} {d : Addr} {S : Int → Bool} {n : Nat} {ns : List Int} {Q : VK} (I : Inv X pins σ H s) (hc : X.calm = true) (R : SetR X.w s.heap d S n) (hS : ∀ k, S k = true ↔ k ∈ ns) (hn : (unl ns).length < 64)
    (hQ : ∀ p, H p = none → Q (.ref p) (upd H p (.lst ((srtI (unl ns)).map V.int)))) : wpAny (model X.prog X.w) X.A (call (.builtin "sorted") [.ref d]) (EP X pins σ Q) X.xe s := by
  have hz := setR_len R hS
  refine sorted_set R (I.ok.hd hc) (by omega) fun s' p out cc ks hk hg ho hp hob hi hpw hm hl => ?_
  have e1 : ks = srtI (unl ns) := by
    refine srtI_uniq ?_ (hpw.imp fun z => Int.le_of_lt z)
    refine (List.perm_ext_iff_of_nodup (hpw.imp fun z => Int.ne_of_lt z) unl_nodup).mpr fun k => ?_
    rw [hm k, hS k, unl_mem]
  obtain ⟨h', g', d', t', os'⟩ := s'
  have hg' : g' = s.gens := hg
  have ho' : os' = s.os := ho
  subst hg' ho'
  have I1 : Inv X pins σ (upd H p (.lst (ks.map V.int))) { s with heap := h', toks := t' } :=
    I.laid (t' := t') hk hp ⟨by rw [List.length_map, sizeLine_eq]; omega, out.toList, cc, vals_of_ints hi, hob⟩
  refine ⟨.ref p, upd H p (.lst (ks.map V.int)), ⟨I1.ok, I1.os, I1.bare, I1.base, I1.loc, I1.cell, I1.free, I1.freeC, I1.pin, I1.hok, I1.len⟩, rfl, ?_⟩
  rw [e1]
  exact hQ p (I.hok.fresh hp)
def rSrtS (K : PySem.W.Frag) (ta : TE) : TE := fun σ H Q => ta σ H fun x H1 => ∃ (l : Addr) (ns : List Int), x = V.ref l ∧ SqL K H1 l (ns.map V.int) ∧ ns.length < 1000 ∧ (unl ns).length < 64 ∧ ∀ p, H1 p = none → Q (.ref p) (upd H1 p (.lst ((srtI (unl ns)).map V.int)))
theorem pe_srtS (hc : X.calm = true) (hg : Gl X "sorted") (hm : X.mg "sorted" = none) (hg2 : Gl X "set") (hm2 : X.mg "set" = none) (ha : PE X a ta) (na : starEach [a] X.env = (false, eval a X.env) :: starEach [] X.env := by rfl) :
    PE X (.Call (.Name "sorted" p) [.Call (.Name "set" p2) [a] [] q] [] pos) (rSrtS X.K ta) := ⟨fun pins s σ H Q I h => by
  refine Call_ (ld_blt I hg hm PyProof.Rows.boot_sorted (PyProof.Rows.callWith_builtin1 (PyProof.Rows.args_cons (Call_ (ld_blt I hg2 hm2 PyProof.Rows.boot_set (PyProof.Rows.callWith_type1 (PyProof.Rows.args_cons (thn (ha.run pins s σ H _ I h) fun v s1 ⟨x, H1, I1, r1, q1⟩ => PyProof.Rows.args_nil ?_) na) na rfl))) rfl) rfl rfl))
  obtain ⟨l, ns, rfl, hq, hl, hu, q2⟩ := q1
  cases r1
  obtain ⟨its, r, pl, hz⟩ := I1.list hq
  refine set_lstI ns (I1.ok.hd hc) pl.isList (ints_of_vals r) (by rw [List.size_toArray, ← r.length, List.length_map]) (by unfold scanBound; omega) fun h' tk cc R1 hcn hk => ?_
  exact PyProof.Rows.args_nil (srt_fin (I1.kept (t' := tk) hk) hc R1 (fun k => by simp) hu q2)⟩
def rSrtU (K : PySem.W.Frag) (ta tb : TE) : TE := fun σ H Q => ta σ H fun x H1 => ∃ (l : Addr) (ns : List Int), x = V.ref l ∧ SqL K H1 l (ns.map V.int) ∧ ns.length < 1000 ∧ tb σ H1 fun y H2 => ∃ (l2 : Addr) (ms : List Int), y = V.ref l2 ∧ SqL K H2 l2 (ms.map V.int) ∧ ns.length + ms.length ≤ 120 ∧ (unl (ns ++ ms)).length < 64 ∧
  ∀ p, H2 p = none → Q (.ref p) (upd H2 p (.lst ((srtI (unl (ns ++ ms))).map V.int)))
theorem pe_srtU (hc : X.calm = true) (hg : Gl X "sorted") (hm : X.mg "sorted" = none) (hg2 : Gl X "set") (hm2 : X.mg "set" = none) (ha : PE X a ta) (hb : PE X b tb) (na : starEach [a] X.env = (false, eval a X.env) :: starEach [] X.env := by rfl) (nb : starEach [b] X.env = (false, eval b X.env) :: starEach [] X.env := by rfl) :
    PE X (.Call (.Name "sorted" p) [.BinOp (.Call (.Name "set" p1) [a] [] q1) .BitOr (.Call (.Name "set" p2) [b] [] q2) q3] [] pos) (rSrtU X.K ta tb) := ⟨fun pins s σ H Q I h => by
  refine Call_ (ld_blt I hg hm PyProof.Rows.boot_sorted (PyProof.Rows.callWith_builtin1 (PyProof.Rows.args_cons (wpAny_BinOp (Call_ (ld_blt I hg2 hm2 PyProof.Rows.boot_set (PyProof.Rows.callWith_type1 (PyProof.Rows.args_cons (thn (ha.run pins s σ H _ I h) fun v s1 ⟨x, H1, I1, r1, q1⟩ => PyProof.Rows.args_nil ?_) na) na rfl)))) rfl) rfl rfl))
  obtain ⟨l, ns, rfl, hq, hl, q2⟩ := q1
  cases r1
  obtain ⟨its, r, pl, hz⟩ := I1.list hq
  refine set_lstI ns (I1.ok.hd hc) pl.isList (ints_of_vals r) (by rw [List.size_toArray, ← r.length, List.length_map]) (by unfold scanBound; omega) fun h1 tk c1 R1 hc1 hk1 => ?_
  obtain ⟨es1, ep1, t1, T1, hs1⟩ := Tb.of R1
  obtain ⟨⟨o1, ho1, hx1, hd1⟩, g1, nd1, hm1, hb1, hf1, hr1, hl1⟩ := T1
  have I2 := ClX.pin_new (t' := tk) I1 hk1 (Nat.le_refl _) ho1 (fun v z => by rw [hd1] at z; cases z)
  refine Call_ (ld_blt I2 hg2 hm2 PyProof.Rows.boot_set (PyProof.Rows.callWith_type1 (PyProof.Rows.args_cons (thn (hb.run _ _ σ H1 _ I2 q2) fun v s3 ⟨y, H3, I3, r3, q3⟩ => PyProof.Rows.args_nil ?_) nb) nb rfl))
  obtain ⟨l2, ms, rfl, hq3, hl3, hu, q4⟩ := q3
  cases r3
  obtain ⟨its3, rr, pl3, hz3⟩ := I3.list hq3
  have pa := ClX.pin_at I3
  refine set_lstI ms (I3.ok.hd hc) pl3.isList (ints_of_vals rr) (by rw [List.size_toArray, ← rr.length, List.length_map]) (by unfold scanBound; omega) fun h2 tk2 c2 R2 hc2 hk2 => ?_
  obtain ⟨es2, ep2, t2, T2, hs2⟩ := Tb.of R2
  have T1' : Tb X.w h2 s1.heap.objs.size (fun j => decide (j ∈ ns)) es1 ep1 t1 := ⟨⟨o1, hk2 _ _ pa, hx1, hd1⟩, g1, nd1, hm1, hb1, hf1, hr1, hl1⟩
  refine or_sets (s := { s3 with heap := h2, toks := tk2 }) T1' T2 (Nat.ne_of_gt (Heap.lt_size pa)) (by omega) fun h4 n4 hk4 R4 hn4 => ?_
  have I4 := (I3.kept (t' := tk2) hk2).kept (t' := tk2) hk4
  exact PyProof.Rows.args_nil (thn (srt_fin (ns := ns ++ ms) (ClX.unpin I4) hc R4 (fun k => by simp) hu q4) fun _ _ z => z)⟩
def dSrtS (d : D) : Option (List D) := (lstD d).bind fun ds => (intsD ds).bind fun ns => match decide (ns.length < 1000 ∧ (unl ns).length < 64) with
  | true => some ((srtI (unl ns)).map D.int)
  | false => none
def gSetL (d : D) : Option D := (lstD d).bind fun ds => (intsD ds).bind fun ns => match decide (ns.length < 1000) with
  | true => some d
  | false => none
def dSrtU (x y : D) : Option (List D) := (lstD x).bind fun ds => (intsD ds).bind fun ns => (lstD y).bind fun es => (intsD es).bind fun ms => match decide (ns.length + ms.length ≤ 120 ∧ (unl (ns ++ ms)).length < 64) with
  | true => some ((srtI (unl (ns ++ ms))).map D.int)
  | false => none
theorem zSrtS (hK : c.E.K = X.K) (hc : X.calm = true) (hg : Gl X "sorted") (hm : X.mg "sorted" = none) (hg2 : Gl X "set") (hm2 : X.mg "set" = none) (ha : PE X a (tE c W md mods ma)) (na : starEach [a] X.env = (false, eval a X.env) :: starEach [] X.env := by rfl) :
    PE X (.Call (.Name "sorted" p) [.Call (.Name "set" p2) [a] [] q] [] pos) (tO c W mods (m1N md dSrtS ma)) := PEw (pe_srtS hc hg hm hg2 hm2 ha na) fun σ H Q ⟨G, S, As, τ, R, q⟩ => by
  refine ⟨G, S, As, τ, R, fin_mono (fin_bd q) fun d S1 e1 k => ?_⟩
  intro v G1 As1 H1 R1 P1 r1
  have k' : fin c W (oo ((dSrtS d).bind (mkL md)) S1) _ := k
  unfold dSrtS at k'
  cases hd : lstD d with
  | none => rw [hd] at k'; exact k'.elim
  | some ds =>
    rw [hd, Option.bind_some] at k'
    cases hi : intsD ds with
    | none => rw [hi] at k'; exact k'.elim
    | some ns =>
      rw [hi, Option.bind_some] at k'
      cases hl : decide (ns.length < 1000 ∧ (unl ns).length < 64) with
      | false => rw [hl] at k'; exact k'.elim
      | true =>
        rw [hl] at k'
        simp only at k'
        obtain ⟨a, xs, rfl, h4, h5⟩ := lst_at r1 hd
        rw [intsD_eq hi] at h5
        rw [RsL.ints h5] at h4
        have sq : SqL X.K H1 a (ns.map V.int) := hK ▸ (hp_ex (md := md) R1.exG).seql h4
        obtain ⟨l1, l2⟩ := of_decide_eq_true hl
        refine ⟨a, ns, rfl, sq, l1, l2, fun p hp0 => ?_⟩
        cases ho : mkL md ((srtI (unl ns)).map D.int) with
        | none => rw [Option.bind_some, ho] at k'; exact k'.elim
        | some o =>
          rw [Option.bind_some, ho] at k'
          exact new_list (md := md) R1 P1 hp0 .of_ints ho k'
theorem zSrtU (hK : c.E.K = X.K) (hc : X.calm = true) (hg : Gl X "sorted") (hm : X.mg "sorted" = none) (hg2 : Gl X "set") (hm2 : X.mg "set" = none) (ha : PE X a (tE c W md mods ma)) (hb : PE X b (tE c W md m2 mb)) (hmd : (md || m2.isEmpty) = true := by rfl) (na : starEach [a] X.env = (false, eval a X.env) :: starEach [] X.env := by rfl) (nb : starEach [b] X.env = (false, eval b X.env) :: starEach [] X.env := by rfl) :
    PE X (.Call (.Name "sorted" p) [.BinOp (.Call (.Name "set" p1) [a] [] q1) .BitOr (.Call (.Name "set" p2) [b] [] q2) q3] [] pos) (tO c W (mods ++ m2) (m2N md dSrtU (m1x gSetL ma) mb)) := PEw (pe_srtU hc hg hm hg2 hm2 ha hb na nb) fun σ H Q ⟨G, S, As, τ, R, q⟩ => by
  refine ⟨G, S, As, τ, R, fin_mono (fin_bd (fin_bd q)) fun d S1 e1 k => ?_⟩
  intro v G1 As1 H1 R1 P1 r1
  have k' : fin c W (oo (gSetL d) S1) _ := k
  unfold gSetL at k'
  cases hd : lstD d with
  | none => rw [hd] at k'; exact k'.elim
  | some ds =>
    rw [hd, Option.bind_some] at k'
    cases hi : intsD ds with
    | none => rw [hi] at k'; exact k'.elim
    | some ns =>
      rw [hi, Option.bind_some] at k'
      cases hl : decide (ns.length < 1000) with
      | false => rw [hl] at k'; exact k'.elim
      | true =>
        rw [hl] at k'
        simp only at k'
        obtain ⟨a, xs, rfl, h4, h5⟩ := lst_at r1 hd
        rw [intsD_eq hi] at h5
        rw [RsL.ints h5] at h4
        have sq : SqL X.K H1 a (ns.map V.int) := hK ▸ (hp_ex (md := md) R1.exG).seql h4
        refine ⟨a, ns, rfl, sq, of_decide_eq_true hl, ?_⟩
        refine ⟨G1, S1, As1, τ, R1, fin_mono (fin_bd k') fun d2 S2 e2 k2 => ?_⟩
        intro u G2 As2 H2 R2 P2 r2
        have k3 : fin c W (oo ((dSrtU d d2).bind (mkL md)) S2) _ := k2
        unfold dSrtU at k3
        rw [hd, Option.bind_some, hi, Option.bind_some] at k3
        cases hd2 : lstD d2 with
        | none => rw [hd2] at k3; exact k3.elim
        | some es =>
          rw [hd2, Option.bind_some] at k3
          cases hi2 : intsD es with
          | none => rw [hi2] at k3; exact k3.elim
          | some ms =>
            rw [hi2, Option.bind_some] at k3
            cases hl2 : decide (ns.length + ms.length ≤ 120 ∧ (unl (ns ++ ms)).length < 64) with
            | false => rw [hl2] at k3; exact k3.elim
            | true =>
              rw [hl2] at k3
              simp only at k3
              obtain ⟨a2, xs2, rfl, h42, h52⟩ := lst_at r2 hd2
              rw [intsD_eq hi2] at h52
              rw [RsL.ints h52] at h42
              have sq2 : SqL X.K H2 a2 (ms.map V.int) := hK ▸ (hp_ex (md := md) R2.exG).seql h42
              obtain ⟨l1, l2⟩ := of_decide_eq_true hl2
              refine ⟨a2, ms, rfl, sq2, l1, l2, fun p hp0 => ?_⟩
              cases ho : mkL md ((srtI (unl (ns ++ ms))).map D.int) with
              | none => rw [Option.bind_some, ho] at k3; exact k3.elim
              | some o =>
                rw [Option.bind_some, ho] at k3
                exact new_list (md := md) R2 (P1.trans P2) hp0 .of_ints ho k3
end
end Z

/-! Z33: two names at once, where a name is a cell: the tuple is made and taken apart. -/
namespace Z
open PySem PySem.Spec PyProof.Rows L2
theorem ps_parN {X : Cx} {pos : Pos} {i j : Nat} {x y : Str} {a b : Expr} {ta : TA} {px py pt : Pos} {kt k2 pt2} (hc : X.calm = true) (hN : X.N.Nodup) (hi : X.N[i]? = some x) (hj : X.N[j]? = some y) (hij : i ≠ j) (hx : Loc X.env.scope x) (hy : Loc X.env.scope y)
    (fx : X.fn x = true ∨ X.env.scope.names.lookup x = some .local) (fy : X.fn y = true ∨ X.env.scope.names.lookup y = some .local) (ha : PA X [a, b] ta)
    (hw : swappedStores [.Tuple [.Name x px, .Name y py] kt pt] (.Tuple [a, b] k2 pt2) X.env = pure none) (hs : swapsWithSole [.Tuple [.Name x px, .Name y py] kt pt] (.Tuple [a, b] k2 pt2) pos.line X.env = pure false) :
    PS X (.Assign [.Tuple [.Name x px, .Name y py] kt pt] (.Tuple [a, b] k2 pt2) pos) (tPar i j ta) := ⟨fun pins s σ H D I h => by
  refine Assign_Tuple (Tuple_ (thn (ha.run _ pins s σ H _ I h) fun us s1 ⟨vs, H1, I1, r1, q1⟩ => ?_)) hs hw
  obtain ⟨v, w, e1, q1⟩ := q1; subst e1
  obtain ⟨u1, u2, rfl, rv, rw'⟩ := vals2 r1
  refine wpAny_newObj_type ?_ (by show 2 ≤ sizeLine; decide)
  have It : Inv X pins σ H1 { s1 with heap := s1.heap.push { cls := .type "tuple", data := .seq [u1, u2].toArray } } := I1.kept (t' := s1.toks) fun b o e => Heap.get?_push_of_some _ e
  refine assign_Tuple_tuple (items := #[u1, u2]) (I.ok.hd hc) (IsTup.new s1.heap _) rfl rfl fun h' hx' => ?_
  have Iu := It.kept (h' := h') (t' := s1.toks) fun b o e => hx' b o (Nat.ne_of_lt (Heap.lt_size e)) e
  show wpAny _ _ (assignInOrder [assign (.Name x px) X.env, assign (.Name y py) X.env] [u1, u2]) _ _ _
  refine assignInOrder_cons (wpAny_assign_Name (store_ok Iu hN hi hx rv (fun s2 I4 => assignInOrder_cons (wpAny_assign_Name (store_ok I4 hN hj hy rw' (fun s3 I5 => assignInOrder_nil ?_) fy))) fx))
  exact ⟨_, H1, I5, q1⟩⟩
section
variable {X : Cx} {c : Ctx} {W : XK} {mods : List Nat} {a b : Expr} {pos : Pos} {ma : M (List O)}
theorem zParN {i j : Nat} {x y : Str} {px py pt : Pos} {kt k2 pt2} (hc : X.calm = true) (hN : X.N.Nodup) (hi : X.N[i]? = some x) (hj : X.N[j]? = some y) (hij : i ≠ j) (hx : Loc X.env.scope x) (hy : Loc X.env.scope y) (hio : i ∉ c.io) (hjo : j ∉ c.io) (ha : PA X [a, b] (tAO c W mods ma))
    (fx : X.fn x = true ∨ X.env.scope.names.lookup x = some .local := by first | exact .inl rfl | exact .inr rfl) (fy : X.fn y = true ∨ X.env.scope.names.lookup y = some .local := by first | exact .inl rfl | exact .inr rfl)
    (hw : swappedStores [.Tuple [.Name x px, .Name y py] kt pt] (.Tuple [a, b] k2 pt2) X.env = pure none := by rfl) (hs : swapsWithSole [.Tuple [.Name x px, .Name y py] kt pt] (.Tuple [a, b] k2 pt2) pos.line X.env = pure false := by rfl) :
    PS X (.Assign [.Tuple [.Name x px, .Name y py] kt pt] (.Tuple [a, b] k2 pt2) pos) (tS c W (sPar i j ma)) :=
  PSl (ps_parN hc hN hi hj hij hx hy fx fy ha hw hs) fun D σ H hl ⟨G, S, As, R, q⟩ => by
    refine ⟨G, S, As, [], R, fin_mono (ok_sd q) fun os S1 e1 k => ?_⟩
    intro vs A G1 As1 H1 R1 P1 r1 N1 _
    have li : i < σ.length := by rw [hl]; exact (List.getElem?_eq_some_iff.mp hi).1
    have lj : j < σ.length := by rw [hl]; exact (List.getElem?_eq_some_iff.mp hj).1
    match os, k, r1 with
    | [o1, o2], k, r1 =>
      obtain ⟨v, r, A1, A2, rfl, rfl, h3, h4⟩ := r1.consE
      obtain ⟨w, r', A3, A4, rfl, rfl, h5, h6⟩ := h4.consE
      unfold RoL at h6
      obtain ⟨rfl, rfl⟩ := h6
      rw [List.append_nil] at N1
      have nd := List.nodup_append.mp N1.nd
      have Na : New c G1 As1 A1 := ⟨nd.1, fun a h => N1.h0 a (List.mem_append_left _ h), fun a h => N1.g a (List.mem_append_left _ h), fun a h => N1.out a (List.mem_append_left _ h)⟩
      have Nb : New c G1 As1 A3 := ⟨nd.2.1, fun a h => N1.h0 a (List.mem_append_right _ h), fun a h => N1.g a (List.mem_append_right _ h), fun a h => N1.out a (List.mem_append_right _ h)⟩
      have R2 := R1.put (τ := []) li hio Na (slOk_of h3)
      have R3 := R2.put (τ := []) (i := j) (by rw [List.length_set]; exact lj) hjo (Nb.apart fun x hx z => nd.2.2 x z x hx rfl) (slOk_of h5)
      exact ⟨v, w, rfl, k G1 _ _ H1 R3⟩
    | [], k, _ => exact k.elim
    | [_], k, _ => exact k.elim
    | _ :: _ :: _ :: _, k, _ => exact k.elim
end
end Z

set_option maxHeartbeats 2000000
/-! Z34: dicts with ints or texts as keys. -/
namespace Z
open PySem PySem.Spec PyProof.Rows L2
def keyD : D → Option Key
  | .int i => some (.inl i)
  | .str x => some (.inr x)
  | _ => none
theorem keyD_rs {E : Ev} {H : Hp} {d : D} {v : V} {k : Key} (h : keyD d = some k) (r : Rs E H d v) : v = kV k := by
  unfold keyD at h
  split at h
  · cases h
    unfold Rs at r
    exact r
  · cases h
    unfold Rs at r
    exact r
  · cases h
def atK {α : Type} : List Key → List α → Key → Option α
  | k' :: ks, d :: ds, k => if k' = k then some d else atK ks ds k
  | _, _, _ => none
def inK (ks : List Key) (k : Key) : Bool := ks.any fun k' => decide (k' = k)
theorem atK_val {E : Ev} {H : Hp} {k : Key} : ∀ {kvs : List (Key × V)} {ds : List D} {d : D}, RsL E H ds (kvs.map (·.2)) → atK (kvs.map (·.1)) ds k = some d → ∃ v, valV kvs k = some v ∧ Rs E H d v
  | [], ds, d, _, h => by
    unfold atK at h
    cases h
  | kv :: kvs, [], d, _, h => by
    unfold atK at h
    cases h
  | kv :: kvs, e :: ds, d, r, h => by
    have r' : RsL E H (e :: ds) (kv.2 :: kvs.map (·.2)) := r
    unfold RsL at r'
    obtain ⟨v, s, e1, r1, r2⟩ := r'
    cases e1
    have h' : (if kv.1 = k then some e else atK (kvs.map (·.1)) ds k) = some d := h
    by_cases hk : kv.1 = k
    · rw [if_pos hk] at h'
      cases h'
      exact ⟨kv.2, valV_pos hk, r1⟩
    · rw [if_neg hk] at h'
      rw [valV_neg hk]
      exact atK_val r2 h'
theorem inK_val {k : Key} (kvs : List (Key × V)) : (valV kvs k).isSome = inK (kvs.map (·.1)) k := by
  rw [← valV_any]
  unfold inK
  rw [List.any_map]
  rfl
/-- d[y] -/
def dDIx : D → D → Option D
  | .dic ks ds, y => (keyD y).bind fun k => atK ks ds k
  | _, _ => none
def inD (y d : D) : Option Bool := match d with
  | .dic ks _ => (keyD y).map fun k => inK ks k
  | _ => none
/-- y in d -/
def dDIn (y d : D) : Option D := (inD y d).map D.bl
def dDNi (y d : D) : Option D := (inD y d).map fun b => D.bl (!b)
def rDIx : R2 := fun x y H Q => ∃ a v, x = .ref a ∧ DGet H a y (some v) ∧ Q v H
def rDIn : R2 := fun y x H Q => ∃ a o, x = .ref a ∧ DGet H a y o ∧ Q (.bl o.isSome) H
def rDNi : R2 := fun y x H Q => ∃ a o, x = .ref a ∧ DGet H a y o ∧ Q (.bl (!o.isSome)) H
section
variable {c : Ctx}
theorem ans_dix : Ans2 c rDIx dDIx := fun h H dx dy d x y Q e rx ry hf k => by
  cases dx with
  | dic ks ds =>
    have hf' : ((keyD dy).bind fun k => atK ks ds k) = some d := hf
    obtain ⟨ky, hk, ha⟩ := Option.bind_eq_some_iff.mp hf'
    unfold Rs at rx
    obtain ⟨a, kvs, rfl, hd, rfl, rl⟩ := rx
    obtain ⟨v, hv, rv⟩ := atK_val rl ha
    exact ⟨a, v, rfl, .inl ⟨kvs, ky, e.rd hd, keyD_rs hk ry, hv.symm⟩, k v rv⟩
  | _ => cases hf
theorem inD_get {E : Ev} {H : Hp} {y d : D} {u v : V} {b : Bool} (hf : inD y d = some b) (ry : Rs E H y u) (rd : Rs E H d v) : ∃ a o, v = .ref a ∧ DGet H a u o ∧ o.isSome = b := by
  cases d with
  | dic ks ds =>
    have hf' : ((keyD y).map fun k => inK ks k) = some b := hf
    obtain ⟨ky, hk, rfl⟩ := Option.map_eq_some_iff.mp hf'
    unfold Rs at rd
    obtain ⟨a, kvs, rfl, hd, rfl, rl⟩ := rd
    exact ⟨a, valV kvs ky, rfl, .inl ⟨kvs, ky, hd, keyD_rs hk ry, rfl⟩, inK_val kvs⟩
  | _ => cases hf
theorem ans_din : Ans2 c rDIn dDIn := fun h H dx dy d x y Q e rx ry hf k => by
  obtain ⟨b, hb, rfl⟩ := Option.map_eq_some_iff.mp hf
  obtain ⟨a, o, rfl, h2, rfl⟩ := inD_get hb (Rs.mono e rx) ry
  exact ⟨a, o, rfl, h2, k _ (by unfold Rs; rfl)⟩
theorem ans_dni : Ans2 c rDNi dDNi := fun h H dx dy d x y Q e rx ry hf k => by
  obtain ⟨b, hb, rfl⟩ := Option.map_eq_some_iff.mp hf
  obtain ⟨a, o, rfl, h2, rfl⟩ := inD_get hb (Rs.mono e rx) ry
  exact ⟨a, o, rfl, h2, k _ (by unfold Rs; rfl)⟩
theorem scal_din : Scal2 dDIn := fun x y d hf => by
  obtain ⟨b, hb, rfl⟩ := Option.map_eq_some_iff.mp hf
  rfl
theorem scal_dni : Scal2 dDNi := fun x y d hf => by
  obtain ⟨b, hb, rfl⟩ := Option.map_eq_some_iff.mp hf
  rfl
end
section
variable {X : Cx} {c : Ctx} {W : XK} {mods m1 m2 m3 : List Nat} {md md1 md2 : Bool} {e a b o : Expr} {pos apos tpos : Pos} {ma mb mi me mk : M D} {mp : M (List Stp)} {i : Nat}
theorem zDIx (hu : X.A.units + 64 < cLine) (ha : PE X a (tE c W md1 m1 ma)) (hb : PE X b (tE c W md2 m2 mb)) (hm : (md1 || m2.isEmpty) = true := by rfl) (hs : NoSl b := by exact fun _ _ => rfl) : PE X (.Subscript a b pos) (tE c W md1 (m1 ++ m2) (m2x dDIx ma mb)) :=
  PEw (t := tOp rDIx (tE c W md1 m1 ma) (tE c W md2 m2 mb)) (pe_dget (by omega) ha hb hs) (w_op ans_dix hm)
theorem zDIn (hu : X.A.units + 64 < cLine) (ha : PE X a (tE c W md1 m1 ma)) (hb : PE X b (tE c W md2 m2 mb)) (hm : (md1 || m2.isEmpty) = true := by rfl) (hk : behindInMarks .In b = false := by rfl) : PE X (.Compare a [.In] [b] pos) (tE c W true (m1 ++ m2) (m2x dDIn ma mb)) :=
  PEw (t := tOp rDIn (tE c W md1 m1 ma) (tE c W md2 m2 mb)) (pe_cmp (pc_din (by omega) ha hb) hk) (w_opS ans_din scal_din hm)
theorem zDNi (hu : X.A.units + 64 < cLine) (ha : PE X a (tE c W md1 m1 ma)) (hb : PE X b (tE c W md2 m2 mb)) (hm : (md1 || m2.isEmpty) = true := by rfl) (hk : behindInMarks .NotIn b = false := by rfl) : PE X (.Compare a [.NotIn] [b] pos) (tE c W true (m1 ++ m2) (m2x dDNi ma mb)) :=
  PEw (t := tOp rDNi (tE c W md1 m1 ma) (tE c W md2 m2 mb)) (pe_cmp (pc_dnotin (by omega) ha hb) hk) (w_opS ans_dni scal_dni hm)
theorem yDIn (hu : X.A.units + 64 < cLine) (ha : PE X a (tE c W md1 m1 ma)) (hb : PE X b (tE c W md2 m2 mb)) (hm : (md1 || m2.isEmpty) = true := by rfl) (hk : behindInMarks .In b = false := by rfl) : PT X (.Compare a [.In] [b] pos) (tT c W (m1 ++ m2) (mTst (m2x dDIn ma mb))) :=
  PTw (t := tTest (tOp rDIn (tE c W md1 m1 ma) (tE c W md2 m2 mb))) (pt_cmp (pc_din (by omega) ha hb) hk) (w_tst (w_opS ans_din scal_din hm))
theorem yDNi (hu : X.A.units + 64 < cLine) (ha : PE X a (tE c W md1 m1 ma)) (hb : PE X b (tE c W md2 m2 mb)) (hm : (md1 || m2.isEmpty) = true := by rfl) (hk : behindInMarks .NotIn b = false := by rfl) : PT X (.Compare a [.NotIn] [b] pos) (tT c W (m1 ++ m2) (mTst (m2x dDNi ma mb))) :=
  PTw (t := tTest (tOp rDNi (tE c W md1 m1 ma) (tE c W md2 m2 mb))) (pt_cmp (pc_dnotin (by omega) ha hb) hk) (w_tst (w_opS ans_dni scal_dni hm))
/-! displays -/
theorem zDnew : PE X (.Dict [] [] pos) (tO c W [] (mC (.dic [] []))) := PEw pe_dnewK fun σ H Q ⟨G, S, As, τ, R, q⟩ => by
  intro p hp0
  have R2 := R.keep (Keep.new (o := .dK []) hp0)
  refine q (.ref p) [p] G As _ R2 (Post.of_keep (Ex.refl _) (Keep.new hp0) fun _ _ => rfl) ?_ (R.new1 hp0) (Frs.one (mods := []) (Post.refl (S := S) (As := As) (G := G)) hp0)
  unfold Ro
  exact ⟨p, [], [], rfl, rfl, upd_same, rfl, RoL.nil⟩
/-- {k: v} -/
def dDic1 (k v : D) : Option O := (keyD k).map fun k => .dic [k] [.sh v]
theorem zDisp1 (ha : PE X a (tE c W true m1 mk)) (hb : PE X b (tE c W true m2 mb)) : PE X (.Dict [some a] [b] pos) (tO c W (m1 ++ m2) (m2x dDic1 mk mb)) :=
  PEw (pe_disp (pps_cons ha hb pps_nil) rfl rfl (fun z => nomatch z) (by show (1 : Nat) ≤ 15; omega)) fun σ H Q ⟨G, S, As, τ, R, q⟩ => by
  intro p hp0
  have R0 := R.keep (Keep.new (o := .dK []) hp0)
  have P0 : Post [] S S As As G G H (upd H p (.dK [])) := Post.of_keep (Ex.refl _) (Keep.new hp0) fun _ _ => rfl
  obtain ⟨f0, f1, f2⟩ := R.fresh hp0
  refine ⟨G, S, As, τ, R0, fin_mono (fin_bd q) fun d1 S1 e1 k1 => ?_⟩
  intro v1 G1 As1 H1 R1 P1 r1
  refine ⟨G1, S1, As1, τ, R1, fin_mono (fin_bd k1) fun d2 S2 e2 k2 => ?_⟩
  intro v2 G2 As2 H2 R2 P2 r2
  have P12 := P1.trans P2
  have hH2 : H2 p = some (.dK []) := P12.frm p _ upd_same fun j _ => f2 j
  cases hk : keyD d1 with
  | none =>
    have : dDic1 d1 d2 = none := by unfold dDic1; rw [hk]; rfl
    rw [this] at k2
    exact k2.elim
  | some k =>
    have hdd : dDic1 d1 d2 = some (.dic [k] [.sh d2]) := by unfold dDic1; rw [hk]; rfl
    rw [hdd] at k2
    have hG2 : G2 p = none := (P12.gn p (by rw [upd_same]; exact fun z => nomatch z) fun j _ => f2 j).trans f1
    have hA2 : ∀ j, p ∉ As2 j := fun j z => by
      rcases P12.new j p z with z | ⟨k, _, z⟩ | z
      · exact f2 j z
      · exact f2 k z
      · rw [upd_same] at z; cases z
    have hv1 : v1 = kV k := keyD_rs hk (show Rs c.E G1 d1 v1 from r1)
    refine ⟨hH2, [(k, v2)], by rw [hv1]; rfl, by show (1 : Nat) ≤ 15; omega, ?_⟩
    have hm : mergeK [] [(k, v2)] = [(k, v2)] := rfl
    rw [hm]
    have R3 : Real c G2 S2 As2 τ σ (upd H2 p (.dK [(k, v2)])) := R2.mutOut hG2 hA2 f0
    have P02 : Post (m1 ++ m2) S S2 As As2 G G2 H H2 := (P0.trans P12)
    have P3 := P02.mut (o := .dK [(k, v2)]) hp0 (by rw [hH2]; exact fun z => nomatch z)
    refine k2 (.ref p) [p] G2 As2 _ R3 P3 ?_ ⟨by simp, fun a ha => ?_, fun a ha => ?_, fun a ha => ?_⟩ fun a ha => ?_
    · unfold Ro
      refine ⟨p, [(k, v2)], [], rfl, rfl, upd_same, rfl, ?_⟩
      refine RoL.sh (ds := [d2]) (RsL.cons (show Rs c.E G2 d2 v2 from r2) RsL.nil)
    · obtain rfl : a = p := by simpa using ha
      exact f0
    · obtain rfl : a = p := by simpa using ha
      exact hG2
    · obtain rfl : a = p := by simpa using ha
      exact hA2
    · obtain rfl : a = p := by simpa using ha
      exact .inl hp0
/-! items set -/
def putD (ks : List Key) (os : List O) (k : Key) (d : D) : O := match inK ks k with
  | true => .dic ks (List.zipWith (fun k' o => if k' = k then .sh d else o) ks os)
  | false => .dic (ks ++ [k]) (os ++ [.sh d])
theorem put_repl {E : Ev} {G H : Hp} {k : Key} {d : D} {v : V} (rv : Rs E G d v) : ∀ {kvs : List (Key × V)} {os : List O} {B : List Addr}, RoL E G H os (kvs.map (·.2)) B → ∃ B', RoL E G H (List.zipWith (fun k' o => if k' = k then .sh d else o) (kvs.map (·.1)) os) ((kvs.map fun kv => if kv.1 = k then (kv.1, v) else kv).map (·.2)) B' ∧ B'.Sublist B
  | [], os, B, h => by
    cases os with
    | nil => exact ⟨B, h, List.Sublist.refl _⟩
    | cons o os =>
      have h' : RoL E G H (o :: os) [] B := h
      unfold RoL at h'
      obtain ⟨_, _, _, _, z, _⟩ := h'
      cases z
  | kv :: kvs, [], B, h => by
    have h' : RoL E G H [] (kv.2 :: kvs.map (·.2)) B := h
    unfold RoL at h'
    cases h'.1
  | kv :: kvs, o :: os, B, h => by
    have h' : RoL E G H (o :: os) (kv.2 :: kvs.map (·.2)) B := h
    obtain ⟨w, r, A1, A2, e1, rfl, h1, h2⟩ := RoL.consE h'
    cases e1
    obtain ⟨B', h3, h4⟩ := put_repl (k := k) rv h2
    by_cases hk : kv.1 = k
    · refine ⟨[] ++ B', ?_, (List.Sublist.append (List.nil_sublist A1) h4)⟩
      have e : List.zipWith (fun k' o => if k' = k then O.sh d else o) ((kv :: kvs).map (·.1)) (o :: os) = .sh d :: List.zipWith (fun k' o => if k' = k then .sh d else o) (kvs.map (·.1)) os := by
        simp [hk]
      have e2 : (((kv :: kvs).map fun kv => if kv.1 = k then (kv.1, v) else kv).map (·.2)) = v :: ((kvs.map fun kv => if kv.1 = k then (kv.1, v) else kv).map (·.2)) := by
        simp [hk]
      rw [e, e2]
      exact RoL.cons (by unfold Ro; exact ⟨rfl, rv⟩) h3
    · refine ⟨A1 ++ B', ?_, List.Sublist.append (List.Sublist.refl _) h4⟩
      have e : List.zipWith (fun k' o => if k' = k then O.sh d else o) ((kv :: kvs).map (·.1)) (o :: os) = o :: List.zipWith (fun k' o => if k' = k then .sh d else o) (kvs.map (·.1)) os := by
        simp [hk]
      have e2 : (((kv :: kvs).map fun kv => if kv.1 = k then (kv.1, v) else kv).map (·.2)) = kv.2 :: ((kvs.map fun kv => if kv.1 = k then (kv.1, v) else kv).map (·.2)) := by
        simp [hk]
      rw [e, e2]
      exact RoL.cons h1 h3
theorem put_keys {k : Key} {v : V} (kvs : List (Key × V)) : (kvs.map fun kv => if kv.1 = k then (kv.1, v) else kv).map (·.1) = kvs.map (·.1) := by
  rw [List.map_map]
  refine List.map_congr_left fun kv _ => ?_
  show (if kv.1 = k then (kv.1, v) else kv).1 = kv.1
  split <;> rfl
theorem mut_dic {G2 H H2 G : Hp} {S S2 : List Sl} {As As2 : Nat → List Addr} {τ : List V} {σ : L2.St} {m : List Nat} {p : List Stp} {v v0 : V} {ks : List Key} {os : List O} (R2 : Real c G2 S2 As2 τ σ H2) (P : Post m S S2 As As2 G G2 H H2) (hi : i < σ.length) (hv : σ[i]? = some (some v0)) (pv : PathV H2 v0 p v) (ho : sget S2 i p = some (.dic ks os)) :
    ∃ l kvs B, v = .ref l ∧ H2 l = some (.dK kvs) ∧ kvs.map (·.1) = ks ∧ RoL c.E G2 H2 os (kvs.map (·.2)) B ∧ B.Nodup ∧ ∀ os' kvs' B', RoL c.E G2 H2 os' (kvs'.map (·.2)) B' → B'.Nodup → (∀ a ∈ B', a ∈ B) →
      ∃ As3, Real c G2 (sput S2 i p (.dic (kvs'.map (·.1)) os')) As3 τ σ (upd H2 l (.dK kvs')) ∧ Post (m ++ [i]) S (sput S2 i p (.dic (kvs'.map (·.1)) os')) As As3 G G2 H (upd H2 l (.dK kvs')) := by
  obtain ⟨A1, ro, nd, dj, go⟩ := mut_end R2 P hi hv pv ho (New.nil) (A := []) (fun _ z => nomatch z)
  unfold Ro at ro
  obtain ⟨l, kvs, B, rfl, rfl, h3, h5, h4⟩ := ro
  have nd2 := List.nodup_cons.mp nd
  refine ⟨l, kvs, B, rfl, h3, h5, h4, nd2.2, fun os' kvs' B' r nd' sub => ?_⟩
  have hl : l ∉ B' := fun z => nd2.1 (sub l z)
  refine go l (.dK kvs') (.dic (kvs'.map (·.1)) os') (l :: B') List.mem_cons_self ?_ (List.nodup_cons.mpr ⟨hl, nd'⟩) fun a ha => ?_
  · unfold Ro
    exact ⟨l, kvs', B', rfl, rfl, upd_same, rfl, RoL.keep (Ex.refl _) r fun a ha u hu => by rw [upd_ne (show a ≠ l from fun z => hl (z ▸ ha))]; exact hu⟩
  · rcases List.mem_cons.mp ha with z | z
    · rw [z]; exact .inl List.mem_cons_self
    · exact .inl (List.mem_cons_of_mem _ (sub a z))
def setK (i : Nat) (p : List Stp) (y d : D) (S : List Sl) : OutS := match sget S i p, keyD y with
  | some (.dic ks os), some k => match decide (ks.length < 16777216) with
    | true => .next (sput S i p (putD ks os k d))
    | false => .bad
  | _, _ => .bad
def sSetD (i : Nat) (me : M D) (mp : M (List Stp)) (mi : M D) : MS := fun S => (me S).sd fun d S1 => (mp S1).sd fun p S2 => (mi S2).sd fun y S3 => setK i p y d S3
/-- x[y] = e, x a dict -/
theorem zSetD (hu : X.A.units + 64 < cLine) (hp : PE X o (tP c W m2 i mp)) (hi : PE X a (tE c W true m3 mi)) (he : PE X e (tE c W true m1 me)) (hm : i ∉ m3 := by decide)
    (hs : swapsWith e (some (.Subscript o a tpos)) pos.line X.env = pure false := by rfl) : PS X (.Assign [.Subscript o a tpos] e pos) (tS c W (sSetD i me mp mi)) :=
  PSw (ps_dput (by omega) hp hi he hs) fun D σ H ⟨G, S, As, R, q⟩ => by
    refine ⟨G, S, As, [], R, fin_mono (ok_sd q) fun d S1 e1 k1 => ?_⟩
    intro v G1 As1 H1 R1 P1 r1
    refine ⟨G1, S1, As1, [], R1, fin_mono (ok_sd k1) fun p S2 e2 k2 => ?_⟩
    intro w G2 As2 H2 R2 P2 hl ⟨v0, hv0, pv⟩ ⟨o1, ho1⟩
    refine ⟨G2, S2, As2, [], R2, fin_mono (ok_sd k2) fun y S3 e3 k3 => ?_⟩
    intro u G3 As3 H3 R3 P3 r3
    obtain ⟨pv3, ho3, eA⟩ := path_later R2 P3 hm hl hv0 pv ho1
    have k4 : okS c W D (setK i p y d S3) := k3
    unfold setK at k4
    rw [ho3] at k4
    have rd : Rs c.E G3 d v := Rs.mono (P2.exG.trans P3.exG) (show Rs c.E G1 d v from r1)
    have ry : Rs c.E G3 y u := r3
    cases o1 with
    | dic ks os =>
      cases hk : keyD y with
      | none => rw [hk] at k4; exact k4.elim
      | some k =>
        rw [hk] at k4
        simp only at k4
        cases hz : decide (ks.length < 16777216) with
        | false => rw [hz] at k4; exact k4.elim
        | true =>
          rw [hz] at k4
          obtain ⟨l, kvs, B, rfl, hH, hks, rB, nB, go⟩ := mut_dic R3 ((P1.trans P2).trans P3) hl hv0 pv3 ho3
          subst hks
          have hlen : kvs.length < sizeLine := by
            rw [sizeLine_eq]
            have := of_decide_eq_true hz
            rwa [List.length_map] at this
          have hu : u = kV k := keyD_rs hk ry
          refine ⟨l, _, rfl, .inl ⟨kvs, k, hH, hu, hlen, rfl⟩, ?_⟩
          have ek : putK kvs k v = if inK (kvs.map (·.1)) k = true then kvs.map (fun kv => if kv.1 = k then (kv.1, v) else kv) else kvs ++ [(k, v)] := by
            have e0 : (kvs.any fun kv => decide (kv.1 = k)) = inK (kvs.map (·.1)) k := (valV_any k kvs).trans (inK_val kvs)
            unfold putK
            rw [e0]
          rw [ek]
          unfold putD at k4
          cases hin : inK (kvs.map (·.1)) k with
          | true =>
            rw [hin] at k4
            rw [if_pos rfl]
            obtain ⟨B', h3, h4⟩ := put_repl (k := k) rd rB
            obtain ⟨As4, R4, _⟩ := go _ _ B' h3 (nB.sublist h4) fun a ha => h4.subset ha
            rw [put_keys] at R4
            exact k4 G3 As4 σ _ R4
          | false =>
            rw [hin] at k4
            rw [if_neg (by simp)]
            obtain ⟨As4, R4, _⟩ := go (os ++ [.sh d]) (kvs ++ [(k, v)]) (B ++ []) (by
              rw [List.map_append]
              exact RoL.append rB (RoL.one (by unfold Ro; exact ⟨rfl, rd⟩))) (by rw [List.append_nil]; exact nB) fun a ha => by rwa [List.append_nil] at ha
            rw [List.map_append] at R4
            exact k4 G3 As4 σ _ R4
    | _ => cases hk : keyD y <;> rw [hk] at k4 <;> exact k4.elim
/-- x[y], x a dict of one's own, what it holds shared -/
def mRdD (i : Nat) (mp : M (List Stp)) (mi : M D) : M D := fun S => (mp S).bd fun p S1 => (mi S1).bd fun y S2 => match sget S2 i p, keyD y with
  | some (.dic ks os), some k => match atK ks os k with
    | some (.sh d) => .ok d S2
    | _ => .bad
  | _, _ => .bad
theorem atK_valO {E : Ev} {G H : Hp} {k : Key} {d : D} : ∀ {kvs : List (Key × V)} {os : List O} {B : List Addr}, RoL E G H os (kvs.map (·.2)) B → atK (kvs.map (·.1)) os k = some (.sh d) → ∃ v, valV kvs k = some v ∧ Rs E G d v
  | [], os, B, _, h => by
    unfold atK at h
    cases h
  | kv :: kvs, [], B, _, h => by
    unfold atK at h
    cases h
  | kv :: kvs, o :: os, B, r, h => by
    have r' : RoL E G H (o :: os) (kv.2 :: kvs.map (·.2)) B := r
    obtain ⟨w, s, A1, A2, e1, rfl, h1, h2⟩ := RoL.consE r'
    cases e1
    have h' : (if kv.1 = k then some o else atK (kvs.map (·.1)) os k) = some (.sh d) := h
    by_cases hk : kv.1 = k
    · rw [if_pos hk] at h'
      cases h'
      unfold Ro at h1
      exact ⟨kv.2, valV_pos hk, h1.2⟩
    · rw [if_neg hk] at h'
      rw [valV_neg hk]
      exact atK_valO h2 h'
theorem zRdD (hu : X.A.units + 64 < cLine) (hp : PE X o (tP c W m1 i mp)) (hi : PE X a (tE c W true m2 mi)) (hm : i ∉ m2 := by decide) (hs : NoSl a := by exact fun _ _ => rfl) : PE X (.Subscript o a pos) (tE c W true (m1 ++ m2) (mRdD i mp mi)) :=
  PEw (pe_dget (by omega) hp hi hs) fun σ H Q ⟨G, S, As, τ, R, q⟩ => by
    refine ⟨G, S, As, τ, R, fin_mono (fin_bd q) fun p S1 e1 k1 => ?_⟩
    intro v G1 As1 H1 R1 P1 hl ⟨v0, hv0, pv⟩ ⟨o1, ho1⟩
    refine ⟨G1, S1, As1, τ, R1, fin_mono (fin_bd k1) fun y S2 e2 k2 => ?_⟩
    intro u G2 As2 H2 R2 P2 r2
    obtain ⟨pv2, ho2, eA⟩ := path_later R1 P2 hm hl hv0 pv ho1
    obtain ⟨o0, L, A1, Rr, _, _, _, ro, _⟩ := at_way R2 hl hv0 pv2 ho2
    have ry : Rs c.E G2 y u := r2
    rw [ho2] at k2
    cases o1 with
    | dic ks os =>
      cases hk : keyD y with
      | none => rw [hk] at k2; exact k2.elim
      | some k =>
        rw [hk] at k2
        simp only at k2
        unfold Ro at ro
        obtain ⟨l, kvs, B, rfl, _, hH, rfl, rB⟩ := ro
        cases hat : atK (kvs.map (·.1)) os k with
        | none => rw [hat] at k2; exact k2.elim
        | some oo =>
          rw [hat] at k2
          cases oo with
          | sh d =>
            obtain ⟨w, hw, rw'⟩ := atK_valO rB hat
            exact ⟨l, w, rfl, .inl ⟨kvs, k, .inl hH, keyD_rs hk ry, hw.symm⟩, k2 w G2 As2 H2 R2 (P1.trans P2) rw'⟩
          | _ => exact k2.elim
    | _ => cases hk : keyD y <;> rw [hk] at k2 <;> exact k2.elim
end
end Z

/-! Y1: what a mirror comes to. -/
namespace Z
open PySem PySem.Spec PyProof.Rows L2
def wO {α : Type} (x : Out α) (Q : α → List Sl → Prop) : Prop := match x with
  | .ok a S' => Q a S'
  | .exc _ _ _ _ => False
  | .bad => False
/-- m ends well, by Q -/
def wM {α : Type} (m : M α) (S : List Sl) (Q : α → List Sl → Prop) : Prop := wO (m S) Q
structure Ks where
  n : List Sl → Prop
  r : O → List Sl → Prop
  b : List Sl → Prop := fun _ => False
  c : List Sl → Prop := fun _ => False
def wOS (x : OutS) (k : Ks) : Prop := match x with
  | .next S' => k.n S'
  | .ret o S' => k.r o S'
  | .brk S' => k.b S'
  | .cont S' => k.c S'
  | .exc _ _ _ _ => False
  | .bad => False
def wS (s : MS) (S : List Sl) (k : Ks) : Prop := wOS (s S) k
def wF {α : Type} (x : Option α) (P : α → Prop) : Prop := match x with
  | some a => P a
  | none => False
def wB (d : D) (P : Bool → Prop) : Prop := match d with
  | .bl b => P b
  | _ => False
def wL (x : Option O) (P : D → Prop) : Prop := match x with
  | some (.sh d) => P d
  | _ => False
def wV (x : Option Sl) (P : D → Prop) : Prop := match x with
  | some (.pl d) => P d
  | _ => False
section
variable {α β γ : Type} {S : List Sl} {k : Ks}
theorem wO_bd {x : Out α} {f : α → List Sl → Out β} {Q : β → List Sl → Prop} : wO (x.bd f) Q = wO x fun a S1 => wO (f a S1) Q := by cases x <;> rfl
theorem wOS_sd {x : Out α} {f : α → List Sl → OutS} : wOS (x.sd f) k = wO x fun a S1 => wOS (f a S1) k := by cases x <;> rfl
theorem wO_oo {x : Option γ} {Q : γ → List Sl → Prop} : wO (oo x S) Q = wF x fun a => Q a S := by cases x <;> rfl
theorem w_mC {a : α} {Q : α → List Sl → Prop} : wM (mC a) S Q = Q a S := propext Iff.rfl
theorem w_mVar {i : Nat} {Q : D → List Sl → Prop} : wM (mVar i) S Q = wV S[i]? fun d => Q d S := by
  unfold wM mVar wV
  cases S[i]? with
  | none => rfl
  | some s => cases s <;> rfl
theorem w_m2x {f : α → β → Option γ} {a : M α} {b : M β} {Q : γ → List Sl → Prop} : wM (m2x f a b) S Q = wM a S fun x S1 => wM b S1 fun y S2 => wF (f x y) fun z => Q z S2 := by
  unfold wM m2x
  simp only [wO_bd, wO_oo]
theorem w_m1x {f : α → Option γ} {a : M α} {Q : γ → List Sl → Prop} : wM (m1x f a) S Q = wM a S fun x S1 => wF (f x) fun z => Q z S1 := by
  unfold wM m1x
  simp only [wO_bd, wO_oo]
theorem w_mTst {m : M D} {Q : Bool → List Sl → Prop} : wM (mTst m) S Q = wM m S fun d S1 => wB d fun b => Q b S1 := by
  unfold wM mTst
  rw [wO_bd]
  congr
  funext d S1
  cases d <;> rfl
theorem w_mAnd {a b : M Bool} {Q : Bool → List Sl → Prop} : wM (mAnd a b) S Q = wM a S fun x S1 => (x = true → wM b S1 Q) ∧ (x = false → Q false S1) := by
  unfold wM mAnd
  rw [wO_bd]
  congr
  funext x S1
  cases x <;> simp [wO]
theorem w_mOr {a b : M Bool} {Q : Bool → List Sl → Prop} : wM (mOr a b) S Q = wM a S fun x S1 => (x = true → Q true S1) ∧ (x = false → wM b S1 Q) := by
  unfold wM mOr
  rw [wO_bd]
  congr
  funext x S1
  cases x <;> simp [wO]
theorem w_mNot {a : M Bool} {Q : Bool → List Sl → Prop} : wM (mNot a) S Q = wM a S fun x S1 => Q (!x) S1 := by
  unfold wM mNot
  rw [wO_bd]
  rfl
theorem w_mIf {t : M Bool} {a b : M α} {Q : α → List Sl → Prop} : wM (mIf t a b) S Q = wM t S fun x S1 => (x = true → wM a S1 Q) ∧ (x = false → wM b S1 Q) := by
  unfold wM mIf
  rw [wO_bd]
  congr
  funext x S1
  cases x <;> simp
theorem w_mBl {t : M Bool} {Q : D → List Sl → Prop} : wM (mBl t) S Q = wM t S fun b S1 => Q (.bl b) S1 := by
  unfold wM mBl
  rw [wO_bd]
  rfl
theorem w_mFr {m : M O} {Q : D → List Sl → Prop} : wM (mFr m) S Q = wM m S fun o S1 => Q (fr o) S1 := by
  unfold wM mFr
  rw [wO_bd]
  rfl
theorem w_mSh {m : M D} {Q : O → List Sl → Prop} : wM (mSh m) S Q = wM m S fun d S1 => Q (.sh d) S1 := by
  unfold wM mSh
  rw [wO_bd]
  rfl
theorem w_mCons {a : M α} {r : M (List α)} {Q : List α → List Sl → Prop} : wM (mCons a r) S Q = wM a S fun x S1 => wM r S1 fun xs S2 => Q (x :: xs) S2 := by
  unfold wM mCons
  simp only [wO_bd]
  rfl
theorem w_mRd {i : Nat} {mp : M (List Stp)} {Q : D → List Sl → Prop} : wM (mRd i mp) S Q = wM mp S fun p S1 => wL (sget S1 i p) fun d => Q d S1 := by
  unfold wM mRd
  rw [wO_bd]
  congr
  funext p S1
  unfold wL
  cases sget S1 i p with
  | none => rfl
  | some o => cases o <;> rfl
def isOwS (x : Option Sl) (P : Prop) : Prop := match x with
  | some (.ow _) => P
  | _ => False
theorem w_pVar {i : Nat} {Q : List Stp → List Sl → Prop} : wM (pVar i) S Q = isOwS S[i]? (Q [] S) := by
  unfold wM pVar isOwS
  cases S[i]? with
  | none => rfl
  | some s => cases s <;> rfl
/-- the place that an int names in an own list -/
def wI (x : Option O) (d : D) (P : Nat → Prop) : Prop := match x, d with
  | some (.lst os), .int k => wF (ixN os.length k) P
  | some (.tup os), .int k => wF (ixN os.length k) P
  | _, _ => False
theorem w_pIx {i : Nat} {mp : M (List Stp)} {mi : M D} {Q : List Stp → List Sl → Prop} : wM (pIx i mp mi) S Q = wM mp S fun p S1 => wM mi S1 fun d S2 => wI (sget S2 i p) d fun j => Q (p ++ [.ix j]) S2 := by
  unfold wM pIx
  simp only [wO_bd]
  congr
  funext p S1
  congr
  funext d S2
  unfold wI
  cases sget S2 i p with
  | none => rfl
  | some o =>
    cases o with
    | lst os =>
      cases d with
      | int n =>
        simp only
        cases ixN os.length n <;> rfl
      | _ => rfl
    | tup os =>
      cases d with
      | int n =>
        simp only
        cases ixN os.length n <;> rfl
      | _ => rfl
    | _ => cases d <;> rfl
/-! statements -/
theorem s_next : wS sNext S k = k.n S := propext Iff.rfl
theorem s_seq {a b : MS} : wS (sSeq a b) S k = wS a S { k with n := fun S1 => wS b S1 k } := by
  unfold wS sSeq
  cases a S <;> rfl
theorem s_if {t : M Bool} {a b : MS} : wS (sIf t a b) S k = wM t S fun x S1 => (x = true → wS a S1 k) ∧ (x = false → wS b S1 k) := by
  unfold wS wM sIf
  rw [wOS_sd]
  congr
  funext x S1
  cases x <;> simp
theorem s_ret {m : M O} : wS (sRet m) S k = wM m S k.r := by
  unfold wS wM sRet
  rw [wOS_sd]
  rfl
theorem s_asg {m : M D} {g : Tg} : wS (sAsg m g) S k = wM m S fun d S1 => wF (g d S1) k.n := by
  unfold wS wM sAsg
  rw [wOS_sd]
  congr
  funext d S1
  cases g d S1 <;> rfl
theorem s_sto {m : M O} {i : Nat} : wS (sSto m i) S k = wM m S fun o S1 => k.n (S1.set i (slOf o)) := by
  unfold wS wM sSto
  rw [wOS_sd]
  rfl
theorem s_own {m : M O} {i : Nat} : wS (sOwn m i) S k = wM m S fun o S1 => k.n (S1.set i (.ow o)) := by
  unfold wS wM sOwn
  rw [wOS_sd]
  rfl
theorem s_drop {m : M α} : wS (sDrop m) S k = wM m S fun _ S1 => k.n S1 := by
  unfold wS wM sDrop
  rw [wOS_sd]
  rfl
def wSet' (x : Option O) (n : Int) (P : List O → Nat → Prop) : Prop := match x with
  | some (.lst os) => wF (ixN os.length n) (P os)
  | _ => False
def wSet (i : Nat) (p : List Stp) (d : D) (o : O) (S : List Sl) (P : List Sl → Prop) : Prop := match sget S i p, d with
  | some (.lst os), .int n => wF (ixN os.length n) fun j => P (sput S i p (.lst (os.set j o)))
  | _, _ => False
theorem wOS_set {i : Nat} {p : List Stp} {d : D} {o : O} : wOS (setL i p d o S) k = wSet i p d o S k.n := by
  unfold setL wSet
  cases sget S i p with
  | none => rfl
  | some x =>
    cases x with
    | lst os =>
      cases d with
      | int n =>
        simp only
        cases ixN os.length n <;> rfl
      | _ => rfl
    | _ => cases d <;> rfl
theorem s_setI {i : Nat} {mo : M O} {mp : M (List Stp)} {mi : M D} : wS (sSetI i mo mp mi) S k = wM mo S fun o S1 => wM mp S1 fun p S2 => wM mi S2 fun d S3 => wSet i p d o S3 k.n := by
  unfold wS wM sSetI
  simp only [wOS_sd, wOS_set]
theorem s_augI {i : Nat} {f : D → D → Option D} {mp : M (List Stp)} {mi me : M D} : wS (sAugI i f mp mi me) S k = wM mp S fun p S1 => wM mi S1 fun d S2 => wF (getL i p d S2) fun x => wM me S2 fun y S3 => wF (f x y) fun z => wSet i p d (.sh z) S3 k.n := by
  unfold wS wM sAugI
  simp only [wOS_sd]
  congr
  funext p S1
  congr
  funext d S2
  cases getL i p d S2 with
  | none => rfl
  | some x =>
    simp only [wOS_sd]
    unfold wF
    simp only
    congr
    funext y S3
    cases f x y with
    | none => rfl
    | some z => exact wOS_set
/-! operators on ints -/
theorem f_add {i j : Int} {P : D → Prop} : wF (dAdd (.int i) (.int j)) P = P (.int (i + j)) := propext Iff.rfl
theorem f_sub {i j : Int} {P : D → Prop} : wF (dSub (.int i) (.int j)) P = P (.int (i - j)) := propext Iff.rfl
theorem f_lt {i j : Int} {P : D → Prop} : wF (dLt (.int i) (.int j)) P = P (.bl (decide (i < j))) := propext Iff.rfl
theorem f_le {i j : Int} {P : D → Prop} : wF (dLe (.int i) (.int j)) P = P (.bl (decide (i ≤ j))) := propext Iff.rfl
theorem f_gt {i j : Int} {P : D → Prop} : wF (dGt (.int i) (.int j)) P = P (.bl (decide (j < i))) := propext Iff.rfl
theorem f_ge {i j : Int} {P : D → Prop} : wF (dGe (.int i) (.int j)) P = P (.bl (decide (j ≤ i))) := propext Iff.rfl
theorem f_dec {C : Bool} {d : D} {P : D → Prop} : wF (match C with | true => some d | false => none) P = (C = true ∧ P d) := by cases C <;> simp [wF]
theorem f_mod {i j : Int} {P : D → Prop} : wF (dMod (.int i) (.int j)) P = (0 < j ∧ P (.int (i % j))) := by
  show wF (match decide (0 < j) with | true => some _ | false => none) P = _
  rw [f_dec, decide_eq_true_eq]
theorem f_div {i j : Int} {P : D → Prop} : wF (dDiv (.int i) (.int j)) P = ((0 < j ∧ j < 2 ^ 200) ∧ P (.int (i / j))) := by
  show wF (match decide (0 < j ∧ j < 2 ^ 200) with | true => some _ | false => none) P = _
  rw [f_dec, decide_eq_true_eq]
theorem f_mul {i j : Int} {P : D → Prop} : wF (dMul (.int i) (.int j)) P = (((-(2 ^ 64) < i ∧ i < 2 ^ 64) ∨ (-(2 ^ 64) < j ∧ j < 2 ^ 64)) ∧ P (.int (i * j))) := by
  show wF (match decide ((-(2 ^ 64) < i ∧ i < 2 ^ 64) ∨ (-(2 ^ 64) < j ∧ j < 2 ^ 64)) with | true => some _ | false => none) P = _
  rw [f_dec, decide_eq_true_eq]
theorem eqv_int {i j : Int} : PyData.eqv (.int i) (.int j) = decide (i = j) := by
  show (i == j) = _
  by_cases h : i = j
  · rw [h]; simp
  · rw [decide_eq_false h, beq_eq_false_iff_ne.mpr h]
theorem f_eq {i j : Int} {P : D → Prop} : wF (dEq (.int i) (.int j)) P = P (.bl (decide (i = j))) := by
  show wF ((eqB (.int i) (.int j)).map D.bl) P = _
  have e : eqB (.int i) (.int j) = some (decide (i = j)) := by
    show some (PyData.eqv (.int i) (.int j)) = _
    rw [eqv_int]
  rw [e]
  rfl
theorem f_ne {i j : Int} {P : D → Prop} : wF (dNe (.int i) (.int j)) P = P (.bl (!decide (i = j))) := by
  show wF ((eqB (.int i) (.int j)).map fun b => D.bl (!b)) P = _
  have e : eqB (.int i) (.int j) = some (decide (i = j)) := by
    show some (PyData.eqv (.int i) (.int j)) = _
    rw [eqv_int]
  rw [e]
  rfl
theorem b_bl {b : Bool} {P : Bool → Prop} : wB (.bl b) P = P b := propext Iff.rfl
theorem l_sh {d : D} {P : D → Prop} : wL (some (.sh d)) P = P d := propext Iff.rfl
theorem v_pl {d : D} {P : D → Prop} : wV (some (.pl d)) P = P d := propext Iff.rfl
theorem o_ow {o : O} {P : Prop} : isOwS (some (.ow o)) P = P := propext Iff.rfl
theorem i_lst {os : List O} {n : Int} {P : Nat → Prop} : wI (some (.lst os)) (.int n) P = wF (ixN os.length n) P := propext Iff.rfl
theorem wF_some {a : α} {P : α → Prop} : wF (some a) P = P a := propext Iff.rfl
theorem f_len {ds : List D} {P : D → Prop} : wF (fLen [.lst ds]) P = P (.int ds.length) := propext Iff.rfl
theorem g_nm {i : Nat} {d : D} {P : List Sl → Prop} : wF (gNm i d S) P = P (S.set i (.pl d)) := propext Iff.rfl
theorem wO_mk {n : Nat} {b : MS} {args : List Sl} {Q : O → List Sl → Prop} : wO (mkFn n b args) Q = wS b (args ++ List.replicate (n - args.length) .no) ⟨Q (.sh .non), Q, fun _ => False, fun _ => False⟩ := by
  unfold mkFn wS
  cases b (args ++ List.replicate (n - args.length) .no) <;> rfl
theorem wF_map {f : α → β} {x : Option α} {P : β → Prop} : wF (x.map f) P = wF x fun a => P (f a) := by cases x <;> rfl
theorem f_ix {ds : List D} {n : Int} {P : D → Prop} : wF (dIx (.lst ds) (.int n)) P = wF (atI ds n) P := propext Iff.rfl
theorem f_ixt {ds : List D} {n : Int} {P : D → Prop} : wF (dIx (.tup ds) (.int n)) P = wF (atI ds n) P := propext Iff.rfl
theorem sg0 {o : O} {p : List Stp} : sget (.ow o :: S) 0 p = oget o p := rfl
theorem sp0 {o n : O} {p : List Stp} : sput (.ow o :: S) 0 p n = .ow (oput o p n) :: S := rfl
theorem sg1 {x0 : Sl} {o : O} {p : List Stp} : sget (x0 :: .ow o :: S) 1 p = oget o p := rfl
theorem sp1 {x0 : Sl} {o n : O} {p : List Stp} : sput (x0 :: .ow o :: S) 1 p n = x0 :: .ow (oput o p n) :: S := rfl
theorem sg2 {x0 : Sl} {x1 : Sl} {o : O} {p : List Stp} : sget (x0 :: x1 :: .ow o :: S) 2 p = oget o p := rfl
theorem sp2 {x0 : Sl} {x1 : Sl} {o n : O} {p : List Stp} : sput (x0 :: x1 :: .ow o :: S) 2 p n = x0 :: x1 :: .ow (oput o p n) :: S := rfl
theorem sg3 {x0 : Sl} {x1 : Sl} {x2 : Sl} {o : O} {p : List Stp} : sget (x0 :: x1 :: x2 :: .ow o :: S) 3 p = oget o p := rfl
theorem sp3 {x0 : Sl} {x1 : Sl} {x2 : Sl} {o n : O} {p : List Stp} : sput (x0 :: x1 :: x2 :: .ow o :: S) 3 p n = x0 :: x1 :: x2 :: .ow (oput o p n) :: S := rfl
theorem sg4 {x0 : Sl} {x1 : Sl} {x2 : Sl} {x3 : Sl} {o : O} {p : List Stp} : sget (x0 :: x1 :: x2 :: x3 :: .ow o :: S) 4 p = oget o p := rfl
theorem sp4 {x0 : Sl} {x1 : Sl} {x2 : Sl} {x3 : Sl} {o n : O} {p : List Stp} : sput (x0 :: x1 :: x2 :: x3 :: .ow o :: S) 4 p n = x0 :: x1 :: x2 :: x3 :: .ow (oput o p n) :: S := rfl
theorem sg5 {x0 : Sl} {x1 : Sl} {x2 : Sl} {x3 : Sl} {x4 : Sl} {o : O} {p : List Stp} : sget (x0 :: x1 :: x2 :: x3 :: x4 :: .ow o :: S) 5 p = oget o p := rfl
theorem sp5 {x0 : Sl} {x1 : Sl} {x2 : Sl} {x3 : Sl} {x4 : Sl} {o n : O} {p : List Stp} : sput (x0 :: x1 :: x2 :: x3 :: x4 :: .ow o :: S) 5 p n = x0 :: x1 :: x2 :: x3 :: x4 :: .ow (oput o p n) :: S := rfl
theorem sg6 {x0 : Sl} {x1 : Sl} {x2 : Sl} {x3 : Sl} {x4 : Sl} {x5 : Sl} {o : O} {p : List Stp} : sget (x0 :: x1 :: x2 :: x3 :: x4 :: x5 :: .ow o :: S) 6 p = oget o p := rfl
theorem sp6 {x0 : Sl} {x1 : Sl} {x2 : Sl} {x3 : Sl} {x4 : Sl} {x5 : Sl} {o n : O} {p : List Stp} : sput (x0 :: x1 :: x2 :: x3 :: x4 :: x5 :: .ow o :: S) 6 p n = x0 :: x1 :: x2 :: x3 :: x4 :: x5 :: .ow (oput o p n) :: S := rfl
theorem sg7 {x0 : Sl} {x1 : Sl} {x2 : Sl} {x3 : Sl} {x4 : Sl} {x5 : Sl} {x6 : Sl} {o : O} {p : List Stp} : sget (x0 :: x1 :: x2 :: x3 :: x4 :: x5 :: x6 :: .ow o :: S) 7 p = oget o p := rfl
theorem sp7 {x0 : Sl} {x1 : Sl} {x2 : Sl} {x3 : Sl} {x4 : Sl} {x5 : Sl} {x6 : Sl} {o n : O} {p : List Stp} : sput (x0 :: x1 :: x2 :: x3 :: x4 :: x5 :: x6 :: .ow o :: S) 7 p n = x0 :: x1 :: x2 :: x3 :: x4 :: x5 :: x6 :: .ow (oput o p n) :: S := rfl
theorem sg8 {x0 : Sl} {x1 : Sl} {x2 : Sl} {x3 : Sl} {x4 : Sl} {x5 : Sl} {x6 : Sl} {x7 : Sl} {o : O} {p : List Stp} : sget (x0 :: x1 :: x2 :: x3 :: x4 :: x5 :: x6 :: x7 :: .ow o :: S) 8 p = oget o p := rfl
theorem sp8 {x0 : Sl} {x1 : Sl} {x2 : Sl} {x3 : Sl} {x4 : Sl} {x5 : Sl} {x6 : Sl} {x7 : Sl} {o n : O} {p : List Stp} : sput (x0 :: x1 :: x2 :: x3 :: x4 :: x5 :: x6 :: x7 :: .ow o :: S) 8 p n = x0 :: x1 :: x2 :: x3 :: x4 :: x5 :: x6 :: x7 :: .ow (oput o p n) :: S := rfl
theorem sg9 {x0 : Sl} {x1 : Sl} {x2 : Sl} {x3 : Sl} {x4 : Sl} {x5 : Sl} {x6 : Sl} {x7 : Sl} {x8 : Sl} {o : O} {p : List Stp} : sget (x0 :: x1 :: x2 :: x3 :: x4 :: x5 :: x6 :: x7 :: x8 :: .ow o :: S) 9 p = oget o p := rfl
theorem sp9 {x0 : Sl} {x1 : Sl} {x2 : Sl} {x3 : Sl} {x4 : Sl} {x5 : Sl} {x6 : Sl} {x7 : Sl} {x8 : Sl} {o n : O} {p : List Stp} : sput (x0 :: x1 :: x2 :: x3 :: x4 :: x5 :: x6 :: x7 :: x8 :: .ow o :: S) 9 p n = x0 :: x1 :: x2 :: x3 :: x4 :: x5 :: x6 :: x7 :: x8 :: .ow (oput o p n) :: S := rfl
theorem sg10 {x0 : Sl} {x1 : Sl} {x2 : Sl} {x3 : Sl} {x4 : Sl} {x5 : Sl} {x6 : Sl} {x7 : Sl} {x8 : Sl} {x9 : Sl} {o : O} {p : List Stp} : sget (x0 :: x1 :: x2 :: x3 :: x4 :: x5 :: x6 :: x7 :: x8 :: x9 :: .ow o :: S) 10 p = oget o p := rfl
theorem sp10 {x0 : Sl} {x1 : Sl} {x2 : Sl} {x3 : Sl} {x4 : Sl} {x5 : Sl} {x6 : Sl} {x7 : Sl} {x8 : Sl} {x9 : Sl} {o n : O} {p : List Stp} : sput (x0 :: x1 :: x2 :: x3 :: x4 :: x5 :: x6 :: x7 :: x8 :: x9 :: .ow o :: S) 10 p n = x0 :: x1 :: x2 :: x3 :: x4 :: x5 :: x6 :: x7 :: x8 :: x9 :: .ow (oput o p n) :: S := rfl
theorem sg11 {x0 : Sl} {x1 : Sl} {x2 : Sl} {x3 : Sl} {x4 : Sl} {x5 : Sl} {x6 : Sl} {x7 : Sl} {x8 : Sl} {x9 : Sl} {x10 : Sl} {o : O} {p : List Stp} : sget (x0 :: x1 :: x2 :: x3 :: x4 :: x5 :: x6 :: x7 :: x8 :: x9 :: x10 :: .ow o :: S) 11 p = oget o p := rfl
theorem sp11 {x0 : Sl} {x1 : Sl} {x2 : Sl} {x3 : Sl} {x4 : Sl} {x5 : Sl} {x6 : Sl} {x7 : Sl} {x8 : Sl} {x9 : Sl} {x10 : Sl} {o n : O} {p : List Stp} : sput (x0 :: x1 :: x2 :: x3 :: x4 :: x5 :: x6 :: x7 :: x8 :: x9 :: x10 :: .ow o :: S) 11 p n = x0 :: x1 :: x2 :: x3 :: x4 :: x5 :: x6 :: x7 :: x8 :: x9 :: x10 :: .ow (oput o p n) :: S := rfl
theorem sg12 {x0 : Sl} {x1 : Sl} {x2 : Sl} {x3 : Sl} {x4 : Sl} {x5 : Sl} {x6 : Sl} {x7 : Sl} {x8 : Sl} {x9 : Sl} {x10 : Sl} {x11 : Sl} {o : O} {p : List Stp} : sget (x0 :: x1 :: x2 :: x3 :: x4 :: x5 :: x6 :: x7 :: x8 :: x9 :: x10 :: x11 :: .ow o :: S) 12 p = oget o p := rfl
theorem sp12 {x0 : Sl} {x1 : Sl} {x2 : Sl} {x3 : Sl} {x4 : Sl} {x5 : Sl} {x6 : Sl} {x7 : Sl} {x8 : Sl} {x9 : Sl} {x10 : Sl} {x11 : Sl} {o n : O} {p : List Stp} : sput (x0 :: x1 :: x2 :: x3 :: x4 :: x5 :: x6 :: x7 :: x8 :: x9 :: x10 :: x11 :: .ow o :: S) 12 p n = x0 :: x1 :: x2 :: x3 :: x4 :: x5 :: x6 :: x7 :: x8 :: x9 :: x10 :: x11 :: .ow (oput o p n) :: S := rfl
theorem sg13 {x0 : Sl} {x1 : Sl} {x2 : Sl} {x3 : Sl} {x4 : Sl} {x5 : Sl} {x6 : Sl} {x7 : Sl} {x8 : Sl} {x9 : Sl} {x10 : Sl} {x11 : Sl} {x12 : Sl} {o : O} {p : List Stp} : sget (x0 :: x1 :: x2 :: x3 :: x4 :: x5 :: x6 :: x7 :: x8 :: x9 :: x10 :: x11 :: x12 :: .ow o :: S) 13 p = oget o p := rfl
theorem sp13 {x0 : Sl} {x1 : Sl} {x2 : Sl} {x3 : Sl} {x4 : Sl} {x5 : Sl} {x6 : Sl} {x7 : Sl} {x8 : Sl} {x9 : Sl} {x10 : Sl} {x11 : Sl} {x12 : Sl} {o n : O} {p : List Stp} : sput (x0 :: x1 :: x2 :: x3 :: x4 :: x5 :: x6 :: x7 :: x8 :: x9 :: x10 :: x11 :: x12 :: .ow o :: S) 13 p n = x0 :: x1 :: x2 :: x3 :: x4 :: x5 :: x6 :: x7 :: x8 :: x9 :: x10 :: x11 :: x12 :: .ow (oput o p n) :: S := rfl
theorem sg14 {x0 : Sl} {x1 : Sl} {x2 : Sl} {x3 : Sl} {x4 : Sl} {x5 : Sl} {x6 : Sl} {x7 : Sl} {x8 : Sl} {x9 : Sl} {x10 : Sl} {x11 : Sl} {x12 : Sl} {x13 : Sl} {o : O} {p : List Stp} : sget (x0 :: x1 :: x2 :: x3 :: x4 :: x5 :: x6 :: x7 :: x8 :: x9 :: x10 :: x11 :: x12 :: x13 :: .ow o :: S) 14 p = oget o p := rfl
theorem sp14 {x0 : Sl} {x1 : Sl} {x2 : Sl} {x3 : Sl} {x4 : Sl} {x5 : Sl} {x6 : Sl} {x7 : Sl} {x8 : Sl} {x9 : Sl} {x10 : Sl} {x11 : Sl} {x12 : Sl} {x13 : Sl} {o n : O} {p : List Stp} : sput (x0 :: x1 :: x2 :: x3 :: x4 :: x5 :: x6 :: x7 :: x8 :: x9 :: x10 :: x11 :: x12 :: x13 :: .ow o :: S) 14 p n = x0 :: x1 :: x2 :: x3 :: x4 :: x5 :: x6 :: x7 :: x8 :: x9 :: x10 :: x11 :: x12 :: x13 :: .ow (oput o p n) :: S := rfl
theorem sg15 {x0 : Sl} {x1 : Sl} {x2 : Sl} {x3 : Sl} {x4 : Sl} {x5 : Sl} {x6 : Sl} {x7 : Sl} {x8 : Sl} {x9 : Sl} {x10 : Sl} {x11 : Sl} {x12 : Sl} {x13 : Sl} {x14 : Sl} {o : O} {p : List Stp} : sget (x0 :: x1 :: x2 :: x3 :: x4 :: x5 :: x6 :: x7 :: x8 :: x9 :: x10 :: x11 :: x12 :: x13 :: x14 :: .ow o :: S) 15 p = oget o p := rfl
theorem sp15 {x0 : Sl} {x1 : Sl} {x2 : Sl} {x3 : Sl} {x4 : Sl} {x5 : Sl} {x6 : Sl} {x7 : Sl} {x8 : Sl} {x9 : Sl} {x10 : Sl} {x11 : Sl} {x12 : Sl} {x13 : Sl} {x14 : Sl} {o n : O} {p : List Stp} : sput (x0 :: x1 :: x2 :: x3 :: x4 :: x5 :: x6 :: x7 :: x8 :: x9 :: x10 :: x11 :: x12 :: x13 :: x14 :: .ow o :: S) 15 p n = x0 :: x1 :: x2 :: x3 :: x4 :: x5 :: x6 :: x7 :: x8 :: x9 :: x10 :: x11 :: x12 :: x13 :: x14 :: .ow (oput o p n) :: S := rfl
theorem og_nil {o : O} : oget o [] = some o := rfl
theorem og_lst {os : List O} {j : Nat} {p : List Stp} : oget (.lst os) (.ix j :: p) = os[j]?.bind fun o => oget o p := by
  show (match os[j]? with | some o' => oget o' p | none => none) = _
  cases os[j]? <;> rfl
theorem og_tup {os : List O} {j : Nat} {p : List Stp} : oget (.tup os) (.ix j :: p) = os[j]?.bind fun o => oget o p := by
  show (match os[j]? with | some o' => oget o' p | none => none) = _
  cases os[j]? <;> rfl
theorem op_nil {o n : O} : oput o [] n = n := rfl
theorem w_set {i : Nat} {p : List Stp} {n : Int} {o : O} {P : List Sl → Prop} : wSet i p (.int n) o S P = wSet' (sget S i p) n fun os j => P (sput S i p (.lst (os.set j o))) := by
  unfold wSet wSet'
  cases sget S i p with
  | none => rfl
  | some x => cases x <;> rfl
theorem w_set' {os : List O} {n : Int} {P : List O → Nat → Prop} : wSet' (some (.lst os)) n P = wF (ixN os.length n) (P os) := propext Iff.rfl
theorem w_get {i : Nat} {p : List Stp} {n : Int} {P : D → Prop} : wF (getL i p (.int n) S) P = wSet' (sget S i p) n fun os j => wL os[j]? P := by
  unfold getL wSet'
  cases sget S i p with
  | none => rfl
  | some x =>
    cases x with
    | lst os =>
      simp only
      cases ixN os.length n with
      | none => rfl
      | some j =>
        simp only
        show wF (match os[j]? with | some (.sh x) => some x | _ => none) P = wL os[j]? P
        cases os[j]? with
        | none => rfl
        | some o => cases o <;> rfl
    | _ => rfl
end
end Z

/-! Y2: calls, loops, comprehensions, lists of ints: what they come to. -/
namespace Z
open PySem PySem.Spec PyProof.Rows L2
section
variable {α β γ : Type} {S : List Sl} {k : Ks}
theorem wO_mono {x : Out α} {P Q : α → List Sl → Prop} (h : wO x P) (f : ∀ a S, P a S → Q a S) : wO x Q := by
  cases x with
  | ok a S => exact f a S h
  | exc _ _ _ _ => exact h
  | bad => exact h
theorem wM_mono {m : M α} {P Q : α → List Sl → Prop} (h : wM m S P) (f : ∀ a S, P a S → Q a S) : wM m S Q := wO_mono h f
theorem wF_mono {x : Option α} {P Q : α → Prop} (h : wF x P) (f : ∀ a, P a → Q a) : wF x Q := by
  cases x with
  | some a => exact f a h
  | none => exact h
/-! calls -/
def wC (n : Nat) (io : List Nat) (as : List Av) (S : List Sl) (P : List Sl → Prop) : Prop := match callOk n io as, argsOf S as with
  | true, some args => P args
  | _, _ => False
theorem wO_call {n : Nat} {io : List Nat} {f : Fn} {as : List Av} {Q : O → List Sl → Prop} : wO (callV n io f as S) Q = wC n io as S fun args => wO (f args) fun o S2 => ((shown as).isEmpty || (clO o && io.all fun p => clS S2[p]?)) = true ∧ Q o (backS S2 (lentAt 0 as) S) := by
  unfold callV wC
  cases callOk n io as with
  | false => cases argsOf S as <;> rfl
  | true =>
    cases argsOf S as with
    | none => rfl
    | some args =>
      simp only
      cases f args with
      | ok o S2 =>
        simp only
        cases h : (shown as).isEmpty || (clO o && io.all fun p => clS S2[p]?) with
        | true =>
          show Q o _ = ((_ : Bool) = true ∧ Q o _)
          rw [h]
          simp
        | false =>
          show False = ((_ : Bool) = true ∧ Q o _)
          rw [h]
          simp
      | exc C fs ds S2 =>
        simp only
        cases (shown as).isEmpty || (ds.all isScal && io.all fun p => clS S2[p]?) <;> rfl
      | bad => rfl
theorem w_call {n : Nat} {io : List Nat} {f : Fn} {m : M (List Av)} {Q : O → List Sl → Prop} : wM (mCall n io f m) S Q = wM m S fun as S1 => wC n io as S1 fun args => wO (f args) fun o S2 => ((shown as).isEmpty || (clO o && io.all fun p => clS S2[p]?)) = true ∧ Q o (backS S2 (lentAt 0 as) S1) := by
  unfold wM mCall
  simp only [wO_bd, wO_call]
theorem w_aD {m : M D} {Q : Av → List Sl → Prop} : wM (aD m) S Q = wM m S fun d S1 => Q (.d d) S1 := by
  unfold wM aD
  rw [wO_bd]
  rfl
theorem w_aS {i : Nat} {Q : Av → List Sl → Prop} : wM (aS i) S Q = isOwS S[i]? (Q (.s i) S) := by
  unfold wM aS isOwS isOw
  cases S[i]? with
  | none => rfl
  | some s => cases s <;> rfl
theorem w_aB {i : Nat} {Q : Av → List Sl → Prop} : wM (aB i) S Q = isOwS S[i]? (Q (.b i) S) := by
  unfold wM aB isOwS isOw
  cases S[i]? with
  | none => rfl
  | some s => cases s <;> rfl
/-! for -/
theorem s_for {m : M (List D)} {g : Tg} {b : MS} : wS (sFor m g b) S k = wM m S fun ds S1 => wOS (forGo g b ds S1) k := by
  unfold wS wM sFor
  rw [wOS_sd]
theorem for_go {g : Tg} {b : MS} (I : Nat → List Sl → Prop) : ∀ (ds : List D) (n : Nat) (S : List Sl), I n S → (∀ (i : Nat) (d : D) (S : List Sl), ds[i]? = some d → I (n + i) S → wF (g d S) fun S1 => wS b S1 ⟨I (n + i + 1), k.r, k.n, I (n + i + 1)⟩) → (∀ S, I (n + ds.length) S → k.n S) → wOS (forGo g b ds S) k
  | [], n, S, h, _, e => e S h
  | d :: ds, n, S, h, st, e => by
    have h1 := st 0 d S rfl h
    unfold forGo
    cases hg : g d S with
    | none => rw [hg] at h1; exact h1
    | some S1 =>
      rw [hg] at h1
      have h2 : wOS (b S1) ⟨I (n + 1), k.r, k.n, I (n + 1)⟩ := h1
      have next : ∀ S2, I (n + 1) S2 → wOS (forGo g b ds S2) k := fun S2 h3 => for_go I ds (n + 1) S2 h3 (fun i d' S' hd hi => by
        have := st (i + 1) d' S' hd (by rw [show n + (i + 1) = n + 1 + i by omega]; exact hi)
        rw [show n + (i + 1) = n + 1 + i by omega] at this
        exact this) fun S' h4 => e S' (by rw [List.length_cons, show n + (ds.length + 1) = n + 1 + ds.length by omega]; exact h4)
      simp only
      cases hb : b S1 with
      | next S2 => rw [hb] at h2; exact next S2 h2
      | cont S2 => rw [hb] at h2; exact next S2 h2
      | brk S2 => rw [hb] at h2; exact h2
      | ret o S2 => rw [hb] at h2; exact h2
      | exc C fs es S2 => rw [hb] at h2; exact h2
      | bad => rw [hb] at h2; exact h2
theorem for_inv {g : Tg} {b : MS} {ds : List D} (I : Nat → List Sl → Prop) (h : I 0 S) (st : ∀ (i : Nat) (d : D) (S : List Sl), ds[i]? = some d → I i S → wF (g d S) fun S1 => wS b S1 ⟨I (i + 1), k.r, k.n, I (i + 1)⟩) (e : ∀ S, I ds.length S → k.n S) : wOS (forGo g b ds S) k :=
  for_go I ds 0 S h (fun i d S hd hi => by
    rw [Nat.zero_add] at hi ⊢
    exact st i d S hd hi) fun S h => e S (by rw [Nat.zero_add] at h; exact h)
/-! while -/
theorem whl_inv {t : M Bool} {b : MS} (I : Nat → List Sl → Prop) (st : ∀ m S, I m S → wM t S fun x S1 => (x = true → wS b S1 ⟨fun S2 => ∃ m', m' < m ∧ I m' S2, k.r, k.n, fun S2 => ∃ m', m' < m ∧ I m' S2⟩) ∧ (x = false → k.n S1)) : ∀ (n m : Nat) (S : List Sl), m < n → I m S → wOS (whl n t b S) k
  | 0, m, S, h, _ => absurd h (Nat.not_lt_zero m)
  | n + 1, m, S, h, hi => by
    have h1 := st m S hi
    unfold whl
    rw [wOS_sd]
    refine wO_mono h1 fun x S1 ⟨h2, h3⟩ => ?_
    cases x with
    | false => exact h3 rfl
    | true =>
      have h4 : wOS (b S1) _ := h2 rfl
      have next : ∀ S2, (∃ m', m' < m ∧ I m' S2) → wOS (whl n t b S2) k := fun S2 ⟨m', hm, hI⟩ => whl_inv I st n m' S2 (by omega) hI
      simp only
      cases hb : b S1 with
      | next S2 => rw [hb] at h4; exact next S2 h4
      | cont S2 => rw [hb] at h4; exact next S2 h4
      | brk S2 => rw [hb] at h4; exact h4
      | ret o S2 => rw [hb] at h4; exact h4
      | exc C fs es S2 => rw [hb] at h4; exact h4
      | bad => rw [hb] at h4; exact h4
theorem s_while {n : Nat} {t : M Bool} {b : MS} (I : Nat → List Sl → Prop) {m : Nat} (hm : m < n) (h : I m S) (st : ∀ m S, I m S → wM t S fun x S1 => (x = true → wS b S1 ⟨fun S2 => ∃ m', m' < m ∧ I m' S2, k.r, k.n, fun S2 => ∃ m', m' < m ∧ I m' S2⟩) ∧ (x = false → k.n S1)) : wS (sWhile n t b) S k := whl_inv I st n m S hm h
/-! comprehensions -/
theorem wO_bn {x : Out α} {f : α → List Sl → Out β} {Q : β → List Sl → Prop} : wO (x.bn f) Q = wO x fun a S1 => wO (f a S1) Q := by cases x <;> rfl
theorem w_comp0 {mi : M (List D)} {g : Tg} {t : M Bool} {e : M D} {vs : List Nat} {Q : O → List Sl → Prop} : wM (mComp mi g t e vs) S Q = wM mi S fun ds S1 => (ds.length ≤ 16777216 ∧ (vs.all fun v => notOw S1[v]?) = true) ∧ wO (cmpGo g t e vs ds (wipeS S1 vs)) fun xs S2 => Q (.lst (xs.map .sh)) (restS S1 S2 vs) := by
  unfold wM mComp
  rw [wO_bd]
  congr
  funext ds S1
  by_cases h : ds.length ≤ 16777216
  · cases h2 : vs.all fun v => notOw S1[v]? with
    | true =>
      have hd := decide_eq_true h
      rw [hd]
      show wO (Out.bn _ _) Q = _
      rw [wO_bn]
      simp only [h, true_and]
      rfl
    | false => simp [h, wO]
  · simp [h, wO]
theorem cmp_go {g : Tg} {t : M Bool} {e : M D} {vs : List Nat} (I : Nat → List D → List Sl → Prop) : ∀ (ds : List D) (n : Nat) (acc : List D) (S : List Sl) (Q : List D → List Sl → Prop), I n acc S →
    (∀ (i : Nat) (d : D) (acc : List D) (S : List Sl), ds[i]? = some d → I (n + i) acc S → wF (g d S) fun S1 => wM t S1 fun b S2 => (b = true → wM e S2 fun x S3 => I (n + i + 1) (acc ++ [x]) (wipeS S3 vs)) ∧ (b = false → I (n + i + 1) acc (wipeS S2 vs))) →
    (∀ ys S, I (n + ds.length) (acc ++ ys) S → Q ys S) → wO (cmpGo g t e vs ds S) Q
  | [], n, acc, S, Q, h, _, en => en [] S (by rw [List.append_nil]; exact h)
  | d :: ds, n, acc, S, Q, h, st, en => by
    have h1 := st 0 d acc S rfl h
    unfold cmpGo
    cases hg : g d S with
    | none => rw [hg] at h1; exact h1
    | some S1 =>
      rw [hg] at h1
      simp only [wO_bn]
      have st' : ∀ (i : Nat) (d : D) (acc : List D) (S : List Sl), ds[i]? = some d → I (n + 1 + i) acc S → wF (g d S) fun S1 => wM t S1 fun b S2 => (b = true → wM e S2 fun x S3 => I (n + 1 + i + 1) (acc ++ [x]) (wipeS S3 vs)) ∧ (b = false → I (n + 1 + i + 1) acc (wipeS S2 vs)) := fun i d' acc' S' hd hi => by
        have := st (i + 1) d' acc' S' hd (by rw [show n + (i + 1) = n + 1 + i by omega]; exact hi)
        rw [show n + (i + 1) = n + 1 + i by omega] at this
        exact this
      refine wO_mono (show wO (t S1) _ from h1) fun b S2 ⟨h2, h3⟩ => ?_
      cases b with
      | false =>
        exact cmp_go I ds (n + 1) acc (wipeS S2 vs) Q (h3 rfl) st' fun ys S' h4 => en ys S' (by rw [List.length_cons, show n + (ds.length + 1) = n + 1 + ds.length by omega]; exact h4)
      | true =>
        simp only [wO_bn]
        refine wO_mono (show wO (e S2) _ from h2 rfl) fun x S3 h4 => ?_
        refine cmp_go I ds (n + 1) (acc ++ [x]) (wipeS S3 vs) _ h4 st' fun ys S' h5 => ?_
        refine en (x :: ys) S' ?_
        rw [List.length_cons, show n + (ds.length + 1) = n + 1 + ds.length by omega]
        rw [List.append_assoc] at h5
        exact h5
theorem comp_inv {g : Tg} {t : M Bool} {e : M D} {vs : List Nat} {ds : List D} {Q : List D → List Sl → Prop} (I : Nat → List D → List Sl → Prop) (h : I 0 [] S)
    (st : ∀ (i : Nat) (d : D) (acc : List D) (S : List Sl), ds[i]? = some d → I i acc S → wF (g d S) fun S1 => wM t S1 fun b S2 => (b = true → wM e S2 fun x S3 => I (i + 1) (acc ++ [x]) (wipeS S3 vs)) ∧ (b = false → I (i + 1) acc (wipeS S2 vs))) (en : ∀ ys S, I ds.length ys S → Q ys S) : wO (cmpGo g t e vs ds S) Q :=
  cmp_go I ds 0 [] S Q h (fun i d acc S hd hi => by
    rw [Nat.zero_add] at hi ⊢
    exact st i d acc S hd hi) fun ys S h => en ys S (by rw [Nat.zero_add] at h; exact h)
/-- a comprehension that leaves all else as it is -/
theorem comp_pure {g : Tg} {t : M Bool} {e : M D} {vs : List Nat} {ds : List D} {Q : List D → List Sl → Prop} (p : D → Bool) (f : D → D)
    (st : ∀ d ∈ ds, wF (g d S) fun S1 => wM t S1 fun b S2 => b = p d ∧ (b = true → wM e S2 fun x S3 => x = f d ∧ wipeS S3 vs = S) ∧ (b = false → wipeS S2 vs = S)) (en : Q ((ds.filter p).map f) S) : wO (cmpGo g t e vs ds S) Q := by
  refine comp_inv (fun i acc S' => S' = S ∧ acc = ((ds.take i).filter p).map f) ⟨rfl, rfl⟩ (fun i d acc S' hd ⟨h1, h2⟩ => ?_) fun ys S' ⟨h1, h2⟩ => ?_
  · subst h1
    have hm := List.mem_of_getElem? hd
    have e1 : ds.take (i + 1) = ds.take i ++ [d] := by
      obtain ⟨hl, he⟩ := List.getElem?_eq_some_iff.mp hd
      rw [List.take_succ_eq_append_getElem hl, he]
    refine wF_mono (st d hm) fun S1 h3 => wM_mono h3 fun b S2 ⟨h4, h5, h6⟩ => ⟨fun hb => wM_mono (h5 hb) fun x S3 ⟨h7, h8⟩ => ⟨h8, ?_⟩, fun hb => ⟨h6 hb, ?_⟩⟩
    · rw [e1, List.filter_append, List.map_append, ← h2, h7]
      rw [hb] at h4
      simp [← h4]
    · rw [e1, List.filter_append, List.map_append, ← h2]
      rw [hb] at h4
      simp [← h4]
  · subst h1
    rw [List.take_length] at h2
    rw [h2]
    exact en
/-! lists of ints -/
theorem intsD_map : ∀ ns : List Int, intsD (ns.map D.int) = some ns
  | [] => rfl
  | n :: ns => by
    show (intsD (ns.map D.int)).map (n :: ·) = _
    rw [intsD_map ns]
    rfl
theorem intsO_map : ∀ ns : List Int, intsO (ns.map fun n => O.sh (.int n)) = some ns
  | [] => rfl
  | n :: ns => by
    show (intsO (ns.map fun n => O.sh (.int n))).map (n :: ·) = _
    rw [intsO_map ns]
    rfl
theorem shO_map : ∀ ds : List D, shO (ds.map O.sh) = some ds
  | [] => rfl
  | d :: ds => by
    show (shO (ds.map O.sh)).map (d :: ·) = _
    rw [shO_map ds]
    rfl
theorem pairsD_map : ∀ ps : List (Int × Int), pairsD (ps.map pairD) = some ps
  | [] => rfl
  | p :: ps => by
    show (pairsD (ps.map pairD)).map ((p.1, p.2) :: ·) = _
    rw [pairsD_map ps]
    rfl
theorem bsD_map : ∀ ns : List Bool, bsD (ns.map D.bl) = some ns
  | [] => rfl
  | n :: ns => by
    show (bsD (ns.map D.bl)).map (n :: ·) = _
    rw [bsD_map ns]
    rfl
theorem frL_sh : ∀ ds : List D, frL (ds.map O.sh) = ds
  | [] => rfl
  | d :: ds => by
    show d :: frL (ds.map O.sh) = _
    rw [frL_sh ds]
theorem all_scal : ∀ ns : List Int, (ns.map D.int).all isScal = true
  | [] => rfl
  | n :: ns => all_scal ns
theorem inB_ints {n : Int} {ns : List Int} : inB (.int n) (.lst (ns.map D.int)) = some (decide (n ∈ ns)) := by
  have e : ∀ ms : List Int, ((ms.map D.int).any fun y => eqS y (.int n)) = decide (n ∈ ms) := by
    intro ms
    induction ms with
    | nil => rfl
    | cons m ms ih =>
      rw [List.map_cons, List.any_cons, ih]
      have e1 : eqS (.int m) (.int n) = decide (n = m) := by
        show (m == n) = _
        by_cases h : m = n
        · rw [h]; simp
        · rw [beq_eq_false_iff_ne.mpr h, decide_eq_false fun z => h z.symm]
      rw [e1]
      simp only [List.mem_cons, Bool.decide_or]
  have e2 := e ns
  unfold inB
  simp only
  rw [all_scal]
  show some _ = _
  rw [e2]
end
end Z

/-! Y3: calls by what they give. -/
namespace Z
open PySem PySem.Spec PyProof.Rows L2
def rO (x : Out O) : Option O := match x with
  | .ok o _ => some o
  | _ => none
theorem wO_r {x : Out O} {P : O → Prop} : wO x (fun o _ => P o) = wF (rO x) P := by cases x <;> rfl
theorem rO_of {x : Out O} {r : O} (h : wO x fun o _ => o = r) : rO x = some r := by
  cases x with
  | ok o S => exact congrArg some h
  | exc _ _ _ _ => exact h.elim
  | bad => exact h.elim
theorem wO_rO {x : Out O} {r : O} {Q : O → List Sl → Prop} (e : rO x = some r) (h : ∀ S, Q r S) : wO x Q := by
  cases x with
  | ok o S =>
    cases Option.some.inj e
    exact h S
  | exc _ _ _ _ => cases e
  | bad => cases e
/-- an own thing in a slot -/
def wOw (x : Option Sl) (P : O → Prop) : Prop := match x with
  | some (.ow o) => P o
  | _ => False
def wOb (cn m : Str) (d : D) (P : Prop) : Prop := match d with
  | .obj C fs _ => (C = cn ∧ fs.contains m = false) ∧ P
  | _ => False
theorem w_meth0 {C m : Str} {n : Nat} {io : List Nat} {f : Fn} {mo : M D} {ma : M (List Av)} {S : List Sl} {Q : O → List Sl → Prop} : wM (mMeth C m n io f mo ma) S Q = wM mo S fun d S1 => wOb C m d (wM ma S1 fun as S2 => wO (callV n io f (.d d :: as) S2) Q) := by
  unfold wM mMeth
  rw [wO_bd]
  congr
  funext d S1
  cases d with
  | obj C' fs ds =>
    unfold wOb
    simp only
    by_cases h : C' = C ∧ fs.contains m = false
    · have e : (decide (C' = C) && !fs.contains m) = true := by rw [h.2]; simp [h.1]
      rw [e]
      show wO (Out.bd _ _) Q = _
      rw [wO_bd]
      exact propext ⟨fun x => ⟨h, x⟩, fun x => x.2⟩
    · have e : (decide (C' = C) && !fs.contains m) = false := by
        cases hc : decide (C' = C) with
        | false => rfl
        | true =>
          cases hm : fs.contains m with
          | true => rfl
          | false => exact absurd ⟨of_decide_eq_true hc, hm⟩ h
      rw [e]
      have : ¬ (C' = C ∧ fs.contains m = false) := h
      simp only [this, false_and]
      rfl
  | _ => rfl
theorem o_own {o : O} {P : O → Prop} : wOw (some (.ow o)) P = P o := propext Iff.rfl

theorem x_call1 {f : Fn} {m0 : M D} {S : List Sl} {Q : O → List Sl → Prop} : wM (mCall 1 [] f (mCons (aD m0) (mC []))) S Q = (wM m0 S fun d0 S0 => wF (rO (f [.pl d0])) fun o => Q o S0) := by
  rw [w_call]
  simp only [w_mCons, w_aD, w_aS, w_aB, w_mC]
  congr; funext d0 S0
  show wO (f [.pl d0]) (fun o _ => (true = true) ∧ Q o S0) = _
  simp only [true_and]
  exact wO_r (P := fun o => Q o S0)
theorem x_call2 {f : Fn} {m0 m1 : M D} {S : List Sl} {Q : O → List Sl → Prop} : wM (mCall 2 [] f (mCons (aD m0) (mCons (aD m1) (mC [])))) S Q = (wM m0 S fun d0 S0 => wM m1 S0 fun d1 S1 => wF (rO (f [.pl d0, .pl d1])) fun o => Q o S1) := by
  rw [w_call]
  simp only [w_mCons, w_aD, w_aS, w_aB, w_mC]
  congr; funext d0 S0
  congr; funext d1 S1
  show wO (f [.pl d0, .pl d1]) (fun o _ => (true = true) ∧ Q o S1) = _
  simp only [true_and]
  exact wO_r (P := fun o => Q o S1)
theorem x_call3 {f : Fn} {m0 m1 m2 : M D} {S : List Sl} {Q : O → List Sl → Prop} : wM (mCall 3 [] f (mCons (aD m0) (mCons (aD m1) (mCons (aD m2) (mC []))))) S Q = (wM m0 S fun d0 S0 => wM m1 S0 fun d1 S1 => wM m2 S1 fun d2 S2 => wF (rO (f [.pl d0, .pl d1, .pl d2])) fun o => Q o S2) := by
  rw [w_call]
  simp only [w_mCons, w_aD, w_aS, w_aB, w_mC]
  congr; funext d0 S0
  congr; funext d1 S1
  congr; funext d2 S2
  show wO (f [.pl d0, .pl d1, .pl d2]) (fun o _ => (true = true) ∧ Q o S2) = _
  simp only [true_and]
  exact wO_r (P := fun o => Q o S2)
theorem x_call4 {f : Fn} {m0 m1 m2 m3 : M D} {S : List Sl} {Q : O → List Sl → Prop} : wM (mCall 4 [] f (mCons (aD m0) (mCons (aD m1) (mCons (aD m2) (mCons (aD m3) (mC [])))))) S Q = (wM m0 S fun d0 S0 => wM m1 S0 fun d1 S1 => wM m2 S1 fun d2 S2 => wM m3 S2 fun d3 S3 => wF (rO (f [.pl d0, .pl d1, .pl d2, .pl d3])) fun o => Q o S3) := by
  rw [w_call]
  simp only [w_mCons, w_aD, w_aS, w_aB, w_mC]
  congr; funext d0 S0
  congr; funext d1 S1
  congr; funext d2 S2
  congr; funext d3 S3
  show wO (f [.pl d0, .pl d1, .pl d2, .pl d3]) (fun o _ => (true = true) ∧ Q o S3) = _
  simp only [true_and]
  exact wO_r (P := fun o => Q o S3)
theorem x_call5 {f : Fn} {m0 m1 m2 m3 m4 : M D} {S : List Sl} {Q : O → List Sl → Prop} : wM (mCall 5 [] f (mCons (aD m0) (mCons (aD m1) (mCons (aD m2) (mCons (aD m3) (mCons (aD m4) (mC []))))))) S Q = (wM m0 S fun d0 S0 => wM m1 S0 fun d1 S1 => wM m2 S1 fun d2 S2 => wM m3 S2 fun d3 S3 => wM m4 S3 fun d4 S4 => wF (rO (f [.pl d0, .pl d1, .pl d2, .pl d3, .pl d4])) fun o => Q o S4) := by
  rw [w_call]
  simp only [w_mCons, w_aD, w_aS, w_aB, w_mC]
  congr; funext d0 S0
  congr; funext d1 S1
  congr; funext d2 S2
  congr; funext d3 S3
  congr; funext d4 S4
  show wO (f [.pl d0, .pl d1, .pl d2, .pl d3, .pl d4]) (fun o _ => (true = true) ∧ Q o S4) = _
  simp only [true_and]
  exact wO_r (P := fun o => Q o S4)
theorem x_call1s {f : Fn} {j0 : Nat} {S : List Sl} {Q : O → List Sl → Prop} : wM (mCall 1 [] f (mCons (aS j0) (mC []))) S Q = (isOwS S[j0]? (wOw S[j0]? fun o0 => wF (rO (f [.pl (fr o0)])) fun o => clO o = true ∧ Q o S)) := by
  rw [w_call]
  simp only [w_mCons, w_aD, w_aS, w_aB, w_mC]
  congr 1
  cases e0 : S[j0]? with
  | none => simp [wC, argsOf, argOf, e0, wOw]
  | some x0 =>
  cases x0 with
  | no => simp [wC, argsOf, argOf, e0, wOw]
  | pl _ => simp [wC, argsOf, argOf, e0, wOw]
  | ow o0 =>
  simp only [wC, argsOf, argOf, e0, wOw]
  show wO (f [.pl (fr o0)]) (fun o _ => (false || (clO o && true)) = true ∧ Q o S) = _
  simp only [Bool.false_or, Bool.and_true]
  exact wO_r (P := fun o => clO o = true ∧ Q o S)
theorem x_call2s {f : Fn} {m1 : M D} {j0 : Nat} {S : List Sl} {Q : O → List Sl → Prop} : wM (mCall 2 [] f (mCons (aS j0) (mCons (aD m1) (mC [])))) S Q = (isOwS S[j0]? (wM m1 S fun d1 S1 => wOw S1[j0]? fun o0 => wF (rO (f [.pl (fr o0), .pl d1])) fun o => clO o = true ∧ Q o S1)) := by
  rw [w_call]
  simp only [w_mCons, w_aD, w_aS, w_aB, w_mC]
  congr 1
  congr; funext d1 S1
  cases e0 : S1[j0]? with
  | none => simp [wC, argsOf, argOf, e0, wOw]
  | some x0 =>
  cases x0 with
  | no => simp [wC, argsOf, argOf, e0, wOw]
  | pl _ => simp [wC, argsOf, argOf, e0, wOw]
  | ow o0 =>
  simp only [wC, argsOf, argOf, e0, wOw]
  show wO (f [.pl (fr o0), .pl d1]) (fun o _ => (false || (clO o && true)) = true ∧ Q o S1) = _
  simp only [Bool.false_or, Bool.and_true]
  exact wO_r (P := fun o => clO o = true ∧ Q o S1)
theorem x_call2t {f : Fn} {m0 : M D} {j1 : Nat} {S : List Sl} {Q : O → List Sl → Prop} : wM (mCall 2 [] f (mCons (aD m0) (mCons (aS j1) (mC [])))) S Q = (wM m0 S fun d0 S0 => isOwS S0[j1]? (wOw S0[j1]? fun o1 => wF (rO (f [.pl d0, .pl (fr o1)])) fun o => clO o = true ∧ Q o S0)) := by
  rw [w_call]
  simp only [w_mCons, w_aD, w_aS, w_aB, w_mC]
  congr; funext d0 S0
  congr 1
  cases e1 : S0[j1]? with
  | none => simp [wC, argsOf, argOf, e1, wOw]
  | some x1 =>
  cases x1 with
  | no => simp [wC, argsOf, argOf, e1, wOw]
  | pl _ => simp [wC, argsOf, argOf, e1, wOw]
  | ow o1 =>
  simp only [wC, argsOf, argOf, e1, wOw]
  show wO (f [.pl d0, .pl (fr o1)]) (fun o _ => (false || (clO o && true)) = true ∧ Q o S0) = _
  simp only [Bool.false_or, Bool.and_true]
  exact wO_r (P := fun o => clO o = true ∧ Q o S0)
theorem x_call3s {f : Fn} {m1 m2 : M D} {j0 : Nat} {S : List Sl} {Q : O → List Sl → Prop} : wM (mCall 3 [] f (mCons (aS j0) (mCons (aD m1) (mCons (aD m2) (mC []))))) S Q = (isOwS S[j0]? (wM m1 S fun d1 S1 => wM m2 S1 fun d2 S2 => wOw S2[j0]? fun o0 => wF (rO (f [.pl (fr o0), .pl d1, .pl d2])) fun o => clO o = true ∧ Q o S2)) := by
  rw [w_call]
  simp only [w_mCons, w_aD, w_aS, w_aB, w_mC]
  congr 1
  congr; funext d1 S1
  congr; funext d2 S2
  cases e0 : S2[j0]? with
  | none => simp [wC, argsOf, argOf, e0, wOw]
  | some x0 =>
  cases x0 with
  | no => simp [wC, argsOf, argOf, e0, wOw]
  | pl _ => simp [wC, argsOf, argOf, e0, wOw]
  | ow o0 =>
  simp only [wC, argsOf, argOf, e0, wOw]
  show wO (f [.pl (fr o0), .pl d1, .pl d2]) (fun o _ => (false || (clO o && true)) = true ∧ Q o S2) = _
  simp only [Bool.false_or, Bool.and_true]
  exact wO_r (P := fun o => clO o = true ∧ Q o S2)
theorem x_call3t {f : Fn} {m0 m1 : M D} {j2 : Nat} {S : List Sl} {Q : O → List Sl → Prop} : wM (mCall 3 [] f (mCons (aD m0) (mCons (aD m1) (mCons (aS j2) (mC []))))) S Q = (wM m0 S fun d0 S0 => wM m1 S0 fun d1 S1 => isOwS S1[j2]? (wOw S1[j2]? fun o2 => wF (rO (f [.pl d0, .pl d1, .pl (fr o2)])) fun o => clO o = true ∧ Q o S1)) := by
  rw [w_call]
  simp only [w_mCons, w_aD, w_aS, w_aB, w_mC]
  congr; funext d0 S0
  congr; funext d1 S1
  congr 1
  cases e2 : S1[j2]? with
  | none => simp [wC, argsOf, argOf, e2, wOw]
  | some x2 =>
  cases x2 with
  | no => simp [wC, argsOf, argOf, e2, wOw]
  | pl _ => simp [wC, argsOf, argOf, e2, wOw]
  | ow o2 =>
  simp only [wC, argsOf, argOf, e2, wOw]
  show wO (f [.pl d0, .pl d1, .pl (fr o2)]) (fun o _ => (false || (clO o && true)) = true ∧ Q o S1) = _
  simp only [Bool.false_or, Bool.and_true]
  exact wO_r (P := fun o => clO o = true ∧ Q o S1)
theorem x_call3u {f : Fn} {m0 m2 : M D} {j1 : Nat} {S : List Sl} {Q : O → List Sl → Prop} : wM (mCall 3 [] f (mCons (aD m0) (mCons (aS j1) (mCons (aD m2) (mC []))))) S Q = (wM m0 S fun d0 S0 => isOwS S0[j1]? (wM m2 S0 fun d2 S2 => wOw S2[j1]? fun o1 => wF (rO (f [.pl d0, .pl (fr o1), .pl d2])) fun o => clO o = true ∧ Q o S2)) := by
  rw [w_call]
  simp only [w_mCons, w_aD, w_aS, w_aB, w_mC]
  congr; funext d0 S0
  congr 1
  congr; funext d2 S2
  cases e1 : S2[j1]? with
  | none => simp [wC, argsOf, argOf, e1, wOw]
  | some x1 =>
  cases x1 with
  | no => simp [wC, argsOf, argOf, e1, wOw]
  | pl _ => simp [wC, argsOf, argOf, e1, wOw]
  | ow o1 =>
  simp only [wC, argsOf, argOf, e1, wOw]
  show wO (f [.pl d0, .pl (fr o1), .pl d2]) (fun o _ => (false || (clO o && true)) = true ∧ Q o S2) = _
  simp only [Bool.false_or, Bool.and_true]
  exact wO_r (P := fun o => clO o = true ∧ Q o S2)
theorem x_call1b {f : Fn} {j0 : Nat} {S : List Sl} {Q : O → List Sl → Prop} : wM (mCall 1 [0] f (mCons (aB j0) (mC []))) S Q = (isOwS S[j0]? (wOw S[j0]? fun o0 => wO (f [.ow o0]) fun o S8 => Q o (S.set j0 (S8.getD 0 .no)))) := by
  rw [w_call]
  simp only [w_mCons, w_aD, w_aS, w_aB, w_mC]
  congr 1
  cases e0 : S[j0]? with
  | none => simp [wC, argsOf, argOf, e0, wOw]
  | some x0 =>
  cases x0 with
  | no => simp [wC, argsOf, argOf, e0, wOw]
  | pl _ => simp [wC, argsOf, argOf, e0, wOw]
  | ow o0 =>
  simp only [wC, argsOf, argOf, e0, wOw]
  have e : callOk 1 [0] [.b j0] = true := by simp [callOk, lentAt, Z.shown]
  rw [e]
  show wO (f [.ow o0]) _ = _
  congr; funext o S8
  show (true = true ∧ _) = _
  simp only [true_and]
  rfl
theorem x_call2b {f : Fn} {m1 : M D} {j0 : Nat} {S : List Sl} {Q : O → List Sl → Prop} : wM (mCall 2 [0] f (mCons (aB j0) (mCons (aD m1) (mC [])))) S Q = (isOwS S[j0]? (wM m1 S fun d1 S1 => wOw S1[j0]? fun o0 => wO (f [.ow o0, .pl d1]) fun o S8 => Q o (S1.set j0 (S8.getD 0 .no)))) := by
  rw [w_call]
  simp only [w_mCons, w_aD, w_aS, w_aB, w_mC]
  congr 1
  congr; funext d1 S1
  cases e0 : S1[j0]? with
  | none => simp [wC, argsOf, argOf, e0, wOw]
  | some x0 =>
  cases x0 with
  | no => simp [wC, argsOf, argOf, e0, wOw]
  | pl _ => simp [wC, argsOf, argOf, e0, wOw]
  | ow o0 =>
  simp only [wC, argsOf, argOf, e0, wOw]
  have e : callOk 2 [0] [.b j0, .d d1] = true := by simp [callOk, lentAt, Z.shown]
  rw [e]
  show wO (f [.ow o0, .pl d1]) _ = _
  congr; funext o S8
  show (true = true ∧ _) = _
  simp only [true_and]
  rfl
theorem x_call3b {f : Fn} {m1 m2 : M D} {j0 : Nat} {S : List Sl} {Q : O → List Sl → Prop} : wM (mCall 3 [0] f (mCons (aB j0) (mCons (aD m1) (mCons (aD m2) (mC []))))) S Q = (isOwS S[j0]? (wM m1 S fun d1 S1 => wM m2 S1 fun d2 S2 => wOw S2[j0]? fun o0 => wO (f [.ow o0, .pl d1, .pl d2]) fun o S8 => Q o (S2.set j0 (S8.getD 0 .no)))) := by
  rw [w_call]
  simp only [w_mCons, w_aD, w_aS, w_aB, w_mC]
  congr 1
  congr; funext d1 S1
  congr; funext d2 S2
  cases e0 : S2[j0]? with
  | none => simp [wC, argsOf, argOf, e0, wOw]
  | some x0 =>
  cases x0 with
  | no => simp [wC, argsOf, argOf, e0, wOw]
  | pl _ => simp [wC, argsOf, argOf, e0, wOw]
  | ow o0 =>
  simp only [wC, argsOf, argOf, e0, wOw]
  have e : callOk 3 [0] [.b j0, .d d1, .d d2] = true := by simp [callOk, lentAt, Z.shown]
  rw [e]
  show wO (f [.ow o0, .pl d1, .pl d2]) _ = _
  congr; funext o S8
  show (true = true ∧ _) = _
  simp only [true_and]
  rfl
theorem x_call4b {f : Fn} {m1 m2 m3 : M D} {j0 : Nat} {S : List Sl} {Q : O → List Sl → Prop} : wM (mCall 4 [0] f (mCons (aB j0) (mCons (aD m1) (mCons (aD m2) (mCons (aD m3) (mC [])))))) S Q = (isOwS S[j0]? (wM m1 S fun d1 S1 => wM m2 S1 fun d2 S2 => wM m3 S2 fun d3 S3 => wOw S3[j0]? fun o0 => wO (f [.ow o0, .pl d1, .pl d2, .pl d3]) fun o S8 => Q o (S3.set j0 (S8.getD 0 .no)))) := by
  rw [w_call]
  simp only [w_mCons, w_aD, w_aS, w_aB, w_mC]
  congr 1
  congr; funext d1 S1
  congr; funext d2 S2
  congr; funext d3 S3
  cases e0 : S3[j0]? with
  | none => simp [wC, argsOf, argOf, e0, wOw]
  | some x0 =>
  cases x0 with
  | no => simp [wC, argsOf, argOf, e0, wOw]
  | pl _ => simp [wC, argsOf, argOf, e0, wOw]
  | ow o0 =>
  simp only [wC, argsOf, argOf, e0, wOw]
  have e : callOk 4 [0] [.b j0, .d d1, .d d2, .d d3] = true := by simp [callOk, lentAt, Z.shown]
  rw [e]
  show wO (f [.ow o0, .pl d1, .pl d2, .pl d3]) _ = _
  congr; funext o S8
  show (true = true ∧ _) = _
  simp only [true_and]
  rfl
theorem x_meth0 {C mt : Str} {mo : M D} {f : Fn} {S : List Sl} {Q : O → List Sl → Prop} : wM (mMeth C mt 1 [] f mo (mC [])) S Q = (wM mo S fun d S9 => wOb C mt d (wF (rO (f [.pl d])) fun o => Q o S9)) := by
  rw [w_meth0]
  simp only [w_mCons, w_aD, w_aS, w_aB, w_mC]
  congr; funext d S9; congr 1
  rw [wO_call]
  show wO (f [.pl d]) (fun o _ => (true = true) ∧ Q o S9) = _
  simp only [true_and]
  exact wO_r (P := fun o => Q o S9)
theorem x_meth1 {C mt : Str} {mo : M D} {f : Fn} {m0 : M D} {S : List Sl} {Q : O → List Sl → Prop} : wM (mMeth C mt 2 [] f mo (mCons (aD m0) (mC []))) S Q = (wM mo S fun d S9 => wOb C mt d (wM m0 S9 fun d0 S0 => wF (rO (f [.pl d, .pl d0])) fun o => Q o S0)) := by
  rw [w_meth0]
  simp only [w_mCons, w_aD, w_aS, w_aB, w_mC]
  congr; funext d S9; congr 1
  congr; funext d0 S0
  rw [wO_call]
  show wO (f [.pl d, .pl d0]) (fun o _ => (true = true) ∧ Q o S0) = _
  simp only [true_and]
  exact wO_r (P := fun o => Q o S0)
theorem x_meth2 {C mt : Str} {mo : M D} {f : Fn} {m0 m1 : M D} {S : List Sl} {Q : O → List Sl → Prop} : wM (mMeth C mt 3 [] f mo (mCons (aD m0) (mCons (aD m1) (mC [])))) S Q = (wM mo S fun d S9 => wOb C mt d (wM m0 S9 fun d0 S0 => wM m1 S0 fun d1 S1 => wF (rO (f [.pl d, .pl d0, .pl d1])) fun o => Q o S1)) := by
  rw [w_meth0]
  simp only [w_mCons, w_aD, w_aS, w_aB, w_mC]
  congr; funext d S9; congr 1
  congr; funext d0 S0
  congr; funext d1 S1
  rw [wO_call]
  show wO (f [.pl d, .pl d0, .pl d1]) (fun o _ => (true = true) ∧ Q o S1) = _
  simp only [true_and]
  exact wO_r (P := fun o => Q o S1)
theorem x_meth1s {C mt : Str} {mo : M D} {f : Fn} {j0 : Nat} {S : List Sl} {Q : O → List Sl → Prop} : wM (mMeth C mt 2 [] f mo (mCons (aS j0) (mC []))) S Q = (wM mo S fun d S9 => wOb C mt d (isOwS S9[j0]? (wOw S9[j0]? fun o0 => wF (rO (f [.pl d, .pl (fr o0)])) fun o => clO o = true ∧ Q o S9))) := by
  rw [w_meth0]
  simp only [w_mCons, w_aD, w_aS, w_aB, w_mC]
  congr; funext d S9; congr 1
  congr 1
  rw [wO_call]
  cases e0 : S9[j0]? with
  | none => simp [wC, argsOf, argOf, e0, wOw]
  | some x0 =>
  cases x0 with
  | no => simp [wC, argsOf, argOf, e0, wOw]
  | pl _ => simp [wC, argsOf, argOf, e0, wOw]
  | ow o0 =>
  simp only [wC, argsOf, argOf, e0, wOw]
  show wO (f [.pl d, .pl (fr o0)]) (fun o _ => (false || (clO o && true)) = true ∧ Q o S9) = _
  simp only [Bool.false_or, Bool.and_true]
  exact wO_r (P := fun o => clO o = true ∧ Q o S9)
end Z

/-! Y4: lists of ints, of pairs, of rows as wholes; rules for them. -/
namespace Z
open PySem PySem.Spec PyProof.Rows L2
/-- a list of ints; shared, own -/
def iD (ns : List Int) : D := .lst (ns.map .int)
def iO (ns : List Int) : O := .lst (ns.map fun n => .sh (.int n))
def pD (ts : List (Int × Int)) : D := .lst (ts.map Z.pairD)
def pO (ts : List (Int × Int)) : O := .lst (ts.map fun t => .sh (Z.pairD t))
/-- a list of lists of ints -/
def rD (nr : List (List Int)) : D := .lst (nr.map iD)
/-- an own list of shared ones -/
def rsO (nr : List (List Int)) : O := .lst (nr.map fun r => .sh (iD r))
def bD (bs : List Bool) : D := .lst (bs.map .bl)
def bO (bs : List Bool) : O := .lst (bs.map fun b => .sh (.bl b))
theorem frL_mapsh {α : Type} (f : α → D) : ∀ xs : List α, frL (xs.map fun x => .sh (f x)) = xs.map f
  | [] => rfl
  | x :: xs => by
    show f x :: frL (xs.map fun x => .sh (f x)) = _
    rw [frL_mapsh f xs]
    rfl
theorem fr_i {ns : List Int} : fr (iO ns) = iD ns := congrArg D.lst (frL_mapsh _ _)
theorem fr_p {ns : List (Int × Int)} : fr (pO ns) = pD ns := congrArg D.lst (frL_mapsh _ _)
theorem fr_rs {ns : List (List Int)} : fr (rsO ns) = rD ns := congrArg D.lst (frL_mapsh _ _)
theorem fr_b {ns : List Bool} : fr (bO ns) = bD ns := congrArg D.lst (frL_mapsh _ _)
theorem fr_sh {d : D} : fr (.sh d) = d := rfl
theorem sl_16 : sizeLine = 16777216 := sizeLine_eq
section
variable {α β γ : Type} {S : List Sl} {k : Ks}
theorem w_mLook {i : Nat} {Q : D → List Sl → Prop} : wM (mLook i) S Q = match S[i]? with
  | some (.pl d) => Q d S
  | some (.ow o) => Q (fr o) S
  | _ => False := by
  unfold wM mLook
  cases S[i]? with
  | none => rfl
  | some s => cases s <;> rfl
def wLook (x : Option Sl) (P : D → Prop) : Prop := match x with
  | some (.pl d) => P d
  | some (.ow o) => P (fr o)
  | _ => False
theorem x_mLook {i : Nat} {Q : D → List Sl → Prop} : wM (mLook i) S Q = wLook S[i]? fun d => Q d S := w_mLook
theorem k_pl {d : D} {P : D → Prop} : wLook (some (.pl d)) P = P d := propext Iff.rfl
theorem k_ow {o : O} {P : D → Prop} : wLook (some (.ow o)) P = P (fr o) := propext Iff.rfl
def wUse (i : Nat) (S : List Sl) (x : Option Sl) (P : D → List Sl → Prop) : Prop := match x with
  | some (.pl d) => P d S
  | some (.ow o) => P (fr o) (S.set i (.pl (fr o)))
  | _ => False
theorem x_mUse {i : Nat} {Q : D → List Sl → Prop} : wM (mUse i) S Q = wUse i S S[i]? Q := by
  unfold wM mUse wUse
  cases S[i]? with
  | none => rfl
  | some s => cases s <;> rfl
theorem u_pl {i : Nat} {d : D} {P : D → List Sl → Prop} : wUse i S (some (.pl d)) P = P d S := propext Iff.rfl
theorem u_ow {i : Nat} {o : O} {P : D → List Sl → Prop} : wUse i S (some (.ow o)) P = P (fr o) (S.set i (.pl (fr o))) := propext Iff.rfl
def wMov (i : Nat) (S : List Sl) (x : Option Sl) (P : O → List Sl → Prop) : Prop := match x with
  | some (.pl d) => P (.sh d) S
  | some (.ow o) => P o (S.set i .no)
  | _ => False
theorem x_mMov {i : Nat} {Q : O → List Sl → Prop} : wM (mMov i) S Q = wMov i S S[i]? Q := by
  unfold wM mMov wMov
  cases S[i]? with
  | none => rfl
  | some s => cases s <;> rfl
theorem mv_pl {i : Nat} {d : D} {P : O → List Sl → Prop} : wMov i S (some (.pl d)) P = P (.sh d) S := propext Iff.rfl
theorem mv_ow {i : Nat} {o : O} {P : O → List Sl → Prop} : wMov i S (some (.ow o)) P = P o (S.set i .no) := propext Iff.rfl
theorem w_mRv {i : Nat} {mp : M (List Stp)} {Q : D → List Sl → Prop} : wM (mRv i mp) S Q = wM mp S fun p S1 => wF (sget S1 i p) fun o => Q (fr o) S1 := by
  unfold wM mRv
  rw [wO_bd]
  congr
  funext p S1
  cases sget S1 i p <;> rfl
def wItV (x : Option Sl) (P : List D → Prop) : Prop := match x with
  | some (.ow (.lst os)) => wF (shO os) P
  | _ => False
theorem x_mItV {i : Nat} {Q : List D → List Sl → Prop} : wM (mItV i) S Q = wItV S[i]? fun ds => Q ds S := by
  unfold wM mItV wItV
  cases S[i]? with
  | none => rfl
  | some s =>
    cases s with
    | ow o =>
      cases o with
      | lst os =>
        simp only
        cases shO os <;> rfl
      | _ => rfl
    | _ => rfl
theorem shO_mapf (f : α → D) : ∀ xs : List α, shO (xs.map fun x => .sh (f x)) = some (xs.map f)
  | [] => rfl
  | x :: xs => by
    show (shO (xs.map fun x => .sh (f x))).map (f x :: ·) = _
    rw [shO_mapf f xs]
    rfl
theorem itv_i {ns : List Int} {P : List D → Prop} : wItV (some (.ow (iO ns))) P = P (ns.map .int) := by
  show wF (shO _) P = _
  rw [shO_mapf]
  rfl
theorem itv_rs {ns : List (List Int)} {P : List D → Prop} : wItV (some (.ow (rsO ns))) P = P (ns.map iD) := by
  show wF (shO _) P = _
  rw [shO_mapf]
  rfl
theorem itv_p {ns : List (Int × Int)} {P : List D → Prop} : wItV (some (.ow (pO ns))) P = P (ns.map Z.pairD) := by
  show wF (shO _) P = _
  rw [shO_mapf]
  rfl
theorem w_mStar {a : M D} {r : M (List D)} {Q : List D → List Sl → Prop} : wM (mStar a r) S Q = wM a S fun d S1 => wM r S1 fun ys S2 => wF (seqD d) fun xs => Q (xs ++ ys) S2 := by
  unfold wM mStar
  simp only [wO_bd]
  congr
  funext d S1
  congr
  funext ys S2
  cases seqD d <;> rfl
theorem w_mSeq {a : M D} {Q : D → List Sl → Prop} : wM (mSeq a) S Q = wM a S fun d S1 => isSeqD d = true ∧ Q d S1 := by
  unfold wM mSeq
  simp only [wO_bd]
  congr
  funext d S1
  cases isSeqD d <;> simp [wO]
theorem sq_i {ns : List Int} : seqD (iD ns) = some (ns.map .int) := rfl
theorem sq_p {ns : List (Int × Int)} : seqD (pD ns) = some (ns.map Z.pairD) := rfl
theorem sq_r {ns : List (List Int)} : seqD (rD ns) = some (ns.map iD) := rfl
theorem is_i {ns : List Int} : isSeqD (iD ns) = true := rfl
theorem is_p {ns : List (Int × Int)} : isSeqD (pD ns) = true := rfl
theorem is_r {ns : List (List Int)} : isSeqD (rD ns) = true := rfl
theorem w_mSl {md : Bool} {m : M D} {ml mh : M (Option Int)} {Q : O → List Sl → Prop} : wM (mSl md m ml mh) S Q = wM m S fun d S1 => wM ml S1 fun lo S2 => wM mh S2 fun hi S3 => wF (lstD d) fun ds => wF (mkL md (cutD ds lo hi)) fun o => Q o S3 := by
  unfold wM mSl
  simp only [wO_bd]
  congr
  funext d S1
  congr
  funext lo S2
  congr
  funext hi S3
  cases lstD d with
  | none => rfl
  | some ds =>
    simp only [wO_oo]
    rfl
def wI1 (d : D) (P : Int → Prop) : Prop := match d with
  | .int i => P i
  | _ => False
theorem w_mPart {m : M D} {Q : Option Int → List Sl → Prop} : wM (mPart m) S Q = wM m S fun d S1 => wI1 d fun i => Q (some i) S1 := by
  unfold wM mPart
  simp only [wO_bd]
  congr
  funext d S1
  cases d <;> rfl
theorem i1_int {i : Int} {P : Int → Prop} : wI1 (.int i) P = P i := propext Iff.rfl
/-! a changed list as a whole -/
def wMutO (f : MutF) (x : Option O) (os : List O) (P : D → O → Prop) : Prop := match x with
  | some (.lst xs) => match f xs os with
    | some (d, xs') => P d (.lst xs')
    | none => False
  | _ => False
theorem wO_mutO {f : MutF} {i : Nat} {p : List Stp} {os : List O} {Q : D → List Sl → Prop} : wO (mutL f i p os S) Q = wMutO f (sget S i p) os fun d o => Q d (sput S i p o) := by
  unfold mutL wMutO
  cases sget S i p with
  | none => rfl
  | some x =>
    cases x with
    | lst xs =>
      simp only
      cases f xs os with
      | none => rfl
      | some q => rfl
    | _ => rfl
theorem x_mut {f : MutF} {i : Nat} {mp : M (List Stp)} {ma : M (List O)} {Q : D → List Sl → Prop} : wM (mMut f i mp ma) S Q = wM mp S fun p S1 => isLstO (sget S1 i p) = true ∧ wM ma S1 fun os S2 => wMutO f (sget S2 i p) os fun d o => Q d (sput S2 i p o) := by
  unfold wM mMut
  rw [wO_bd]
  congr
  funext p S1
  cases isLstO (sget S1 i p) with
  | false => simp [wO]
  | true => simp only [wO_bd, wO_mutO, true_and]
theorem il_i {ns : List Int} : isLstO (some (iO ns)) = true := rfl
theorem il_p {ns : List (Int × Int)} : isLstO (some (pO ns)) = true := rfl
theorem il_rs {ns : List (List Int)} : isLstO (some (rsO ns)) = true := rfl
theorem il_b {ns : List Bool} : isLstO (some (bO ns)) = true := rfl
theorem app_map {f : α → O} {xs : List α} {x : α} {P : D → O → Prop} : wMutO fApp (some (.lst (xs.map f))) [f x] P = (xs.length < 16777216 ∧ P .non (.lst ((xs ++ [x]).map f))) := by
  have e : (xs.map f) ++ [f x] = (xs ++ [x]).map f := by rw [List.map_append]; rfl
  unfold wMutO fApp
  simp only [List.length_map, sl_16]
  by_cases h : xs.length < 16777216
  · simp only [decide_eq_true h]
    simp only [h, true_and, e]
  · simp only [decide_eq_false h]
    simp only [h, false_and]
theorem m_app_i {ns : List Int} {n : Int} {P : D → O → Prop} : wMutO fApp (some (iO ns)) [.sh (.int n)] P = (ns.length < 16777216 ∧ P .non (iO (ns ++ [n]))) := app_map (f := fun n => O.sh (.int n))
theorem m_app_p {ns : List (Int × Int)} {n : Int × Int} {P : D → O → Prop} : wMutO fApp (some (pO ns)) [.sh (Z.pairD n)] P = (ns.length < 16777216 ∧ P .non (pO (ns ++ [n]))) := app_map (f := fun n => O.sh (Z.pairD n))
theorem m_app_rs {ns : List (List Int)} {n : List Int} {P : D → O → Prop} : wMutO fApp (some (rsO ns)) [.sh (iD n)] P = (ns.length < 16777216 ∧ P .non (rsO (ns ++ [n]))) := app_map (f := fun n => O.sh (iD n))
theorem m_app_b {ns : List Bool} {n : Bool} {P : D → O → Prop} : wMutO fApp (some (bO ns)) [.sh (.bl n)] P = (ns.length < 16777216 ∧ P .non (bO (ns ++ [n]))) := app_map (f := fun n => O.sh (.bl n))
theorem m_rev_i {ns : List Int} {P : D → O → Prop} : wMutO fRev (some (iO ns)) [] P = P .non (iO ns.reverse) := by
  show P .non (.lst (ns.map _).reverse) = _
  rw [← List.map_reverse]
  rfl
theorem m_clr_i {ns : List Int} {P : D → O → Prop} : wMutO fClr (some (iO ns)) [] P = P .non (iO []) := propext Iff.rfl
theorem idxI_mem {k : Int} : ∀ {ns : List Int}, k ∈ ns → ∃ j, idxI k ns = some j ∧ ns.eraseIdx j = ns.erase k
  | n :: ns, h => by
    unfold idxI
    by_cases e : n = k
    · subst e
      refine ⟨0, if_pos rfl, ?_⟩
      rw [List.eraseIdx_zero, List.erase_cons_head]
      rfl
    · have hm : k ∈ ns := (List.mem_cons.mp h).elim (fun z => absurd z.symm e) id
      obtain ⟨j, h1, h2⟩ := idxI_mem hm
      refine ⟨j + 1, by rw [if_neg e, h1]; rfl, ?_⟩
      rw [List.eraseIdx_cons_succ, h2, List.erase_cons_tail (by simpa using e)]
theorem idxI_out {k : Int} : ∀ {ns : List Int}, k ∉ ns → idxI k ns = none
  | [], _ => rfl
  | n :: ns, h => by
    unfold idxI
    rw [if_neg (fun e : n = k => h (by rw [e]; exact List.mem_cons_self)), idxI_out (fun z => h (List.mem_cons_of_mem _ z))]
    rfl
theorem m_rem_i {ns : List Int} {k : Int} {P : D → O → Prop} : wMutO fRem (some (iO ns)) [.sh (.int k)] P = (k ∈ ns ∧ P .non (iO (ns.erase k))) := by
  unfold wMutO fRem iO
  simp only [intsO_map]
  by_cases h : k ∈ ns
  · obtain ⟨j, h1, h2⟩ := idxI_mem h
    simp only [h1, h2, h, true_and]
  · simp only [idxI_out h, h, false_and]
/-! operators -/
theorem f_len_i {ns : List Int} {P : D → Prop} : wF (fLen [iD ns]) P = P (.int ns.length) := by
  show P (.int (List.length (ns.map D.int))) = _
  rw [List.length_map]
theorem f_len_p {ns : List (Int × Int)} {P : D → Prop} : wF (fLen [pD ns]) P = P (.int ns.length) := by
  show P (.int (List.length (ns.map Z.pairD))) = _
  rw [List.length_map]
theorem f_len_r {ns : List (List Int)} {P : D → Prop} : wF (fLen [rD ns]) P = P (.int ns.length) := by
  show P (.int (List.length (ns.map iD))) = _
  rw [List.length_map]
theorem f_in_i {n : Int} {ns : List Int} {P : D → Prop} : wF (dIn (.int n) (iD ns)) P = P (.bl (decide (n ∈ ns))) := by
  unfold dIn iD
  rw [inB_ints]
  rfl
theorem f_ni_i {n : Int} {ns : List Int} {P : D → Prop} : wF (dNi (.int n) (iD ns)) P = P (.bl (!decide (n ∈ ns))) := by
  unfold dNi iD
  rw [inB_ints]
  rfl
theorem toPyL_i : ∀ ns : List Int, toPyL (ns.map D.int) = some (ns.map PyData.int)
  | [] => rfl
  | n :: ns => by
    show (match toPy (.int n), toPyL (ns.map D.int) with | some p, some ps => some (p :: ps) | _, _ => none) = _
    rw [toPyL_i ns]
    rfl
theorem toPy_i {ns : List Int} : toPy (iD ns) = some (.list (ns.map PyData.int)) := by
  show (toPyL (ns.map D.int)).map PyData.list = _
  rw [toPyL_i]
  rfl
theorem f_ix_i {ns : List Int} {i : Int} {P : D → Prop} : wF (dIx (iD ns) (.int i)) P = wF (atI ns i) fun n => P (.int n) := by
  show wF (atI (ns.map D.int) i) P = _
  unfold atI
  rw [List.length_map]
  cases ixN ns.length i with
  | none => rfl
  | some j =>
    simp only [Option.bind_some, List.getElem?_map, wF_map]
theorem f_ix_p {ns : List (Int × Int)} {i : Int} {P : D → Prop} : wF (dIx (pD ns) (.int i)) P = wF (atI ns i) fun n => P (Z.pairD n) := by
  show wF (atI (ns.map Z.pairD) i) P = _
  unfold atI
  rw [List.length_map]
  cases ixN ns.length i with
  | none => rfl
  | some j =>
    simp only [Option.bind_some, List.getElem?_map, wF_map]
theorem f_ix_r {ns : List (List Int)} {i : Int} {P : D → Prop} : wF (dIx (rD ns) (.int i)) P = wF (atI ns i) fun n => P (iD n) := by
  show wF (atI (ns.map iD) i) P = _
  unfold atI
  rw [List.length_map]
  cases ixN ns.length i with
  | none => rfl
  | some j =>
    simp only [Option.bind_some, List.getElem?_map, wF_map]
theorem f_ix_b {ns : List Bool} {i : Int} {P : D → Prop} : wF (dIx (bD ns) (.int i)) P = wF (atI ns i) fun n => P (.bl n) := by
  show wF (atI (ns.map D.bl) i) P = _
  unfold atI
  rw [List.length_map]
  cases ixN ns.length i with
  | none => rfl
  | some j =>
    simp only [Option.bind_some, List.getElem?_map, wF_map]
theorem p_fst {t : Int × Int} {P : D → Prop} : wF (dIx (Z.pairD t) (.int 0)) P = P (.int t.1) := propext Iff.rfl
theorem p_snd {t : Int × Int} {P : D → Prop} : wF (dIx (Z.pairD t) (.int 1)) P = P (.int t.2) := propext Iff.rfl
/-- an item that is there -/
theorem at_in {xs : List α} {i : Int} {d : α} (h0 : 0 ≤ i) (h1 : i < xs.length) : atI xs i = some (xs.getD i.toNat d) := by
  have hj : i.toNat < xs.length := by omega
  unfold atI ixN
  rw [if_pos h0, if_pos h1]
  simp only [Option.bind_some]
  rw [List.getD_eq_getElem?_getD, List.getElem?_eq_getElem hj]
  rfl
theorem at_last {xs : List α} {d : α} (h : xs ≠ []) : atI xs (-1) = some (xs.getLastD d) := by
  have hl : 0 < xs.length := List.length_pos_iff.mpr h
  unfold atI ixN
  rw [if_neg (by omega), if_pos (by omega)]
  have e : ((-1 : Int) + (xs.length : Int)).toNat = xs.length - 1 := by omega
  simp only [Option.bind_some]
  rw [e, ← List.getLast?_eq_getElem?, List.getLast?_eq_some_getLast h, List.getLastD_eq_getLast?, List.getLast?_eq_some_getLast h]
  rfl
theorem f_list_i {md : Bool} {ns : List Int} {P : O → Prop} : wF (mNew md gList [iD ns]) P = P (iO ns) := by
  show wF (mkL md (ns.map D.int)) P = _
  unfold mkL
  rw [all_scal, Bool.or_true]
  show P (.lst ((ns.map D.int).map O.sh)) = _
  rw [List.map_map]
  rfl
theorem f_list_t {ns : List (Int × Int)} {P : O → Prop} : wF (mNew true gList [pD ns]) P = P (pO ns) := by
  show P (.lst ((ns.map Z.pairD).map O.sh)) = _
  rw [List.map_map]
  rfl
theorem f_list_r {ns : List (List Int)} {P : O → Prop} : wF (mNew true gList [rD ns]) P = P (rsO ns) := by
  show P (.lst ((ns.map iD).map O.sh)) = _
  rw [List.map_map]
  rfl
theorem mk_i {md : Bool} {ns : List Int} {P : O → Prop} : wF (mkL md (ns.map D.int)) P = P (iO ns) := f_list_i
theorem mk_p {ns : List (Int × Int)} {P : O → Prop} : wF (mkL true (ns.map Z.pairD)) P = P (pO ns) := f_list_t
theorem mk_r {ns : List (List Int)} {P : O → Prop} : wF (mkL true (ns.map iD)) P = P (rsO ns) := f_list_r
theorem f_srt_i {md : Bool} {ns : List Int} {P : O → Prop} : wF (mNew md gSort [iD ns]) P = P (iO (srtI ns)) := by
  have e : gSort [iD ns] = some ((srtI ns).map D.int) := by
    simp only [gSort, iD, lstD, Option.bind_some, intsD_map]
  unfold mNew
  rw [e, Option.bind_some]
  exact mk_i
theorem f_srt_p {ts : List (Int × Int)} {P : O → Prop} : wF (mNew true gSort [pD ts]) P = P (pO (srtP ts)) := by
  by_cases h : ts = []
  · subst h
    have e1 : srtP [] = [] := (srtP_perm []).eq_nil
    rw [e1]
    have e3 : srtI [] = [] := (srtI_perm []).eq_nil
    have := f_srt_i (md := true) (ns := []) (P := P)
    rw [e3] at this
    exact this
  · have e : gSort [pD ts] = some ((srtP ts).map Z.pairD) := by
      have e1 : intsD (ts.map Z.pairD) = none := by
        cases ts with
        | nil => exact absurd rfl h
        | cons p ps => rfl
      simp only [gSort, pD, lstD, Option.bind_some, e1, pairsD_map]
    unfold mNew
    rw [e, Option.bind_some]
    exact mk_p
theorem f_rev_i {ns : List Int} {P : List D → Prop} : wF (dRevL (iD ns)) P = P (ns.reverse.map .int) := by
  show P (ns.map D.int).reverse = _
  rw [← List.map_reverse]
theorem f_rev_p {ns : List (Int × Int)} {P : List D → Prop} : wF (dRevL (pD ns)) P = P (ns.reverse.map Z.pairD) := by
  show P (ns.map Z.pairD).reverse = _
  rw [← List.map_reverse]
theorem f_cat_i {a b : List Int} {P : List D → Prop} : wF (dCat (iD a) (iD b)) P = (a.length + b.length ≤ 16777216 ∧ P ((a ++ b).map .int)) := by
  unfold dCat iD
  simp only [List.length_map, sl_16]
  by_cases h : a.length + b.length ≤ 16777216
  · simp only [decide_eq_true h]
    simp only [h, true_and, wF_some, List.map_append]
  · simp only [decide_eq_false h]
    simp only [h, false_and]
    rfl
theorem f_cat_r {a b : List (List Int)} {P : List D → Prop} : wF (dCat (rD a) (rD b)) P = (a.length + b.length ≤ 16777216 ∧ P ((a ++ b).map iD)) := by
  unfold dCat rD
  simp only [List.length_map, sl_16]
  by_cases h : a.length + b.length ≤ 16777216
  · simp only [decide_eq_true h]
    simp only [h, true_and, wF_some, List.map_append]
  · simp only [decide_eq_false h]
    simp only [h, false_and]
    rfl
theorem f_cat_p {a b : List (Int × Int)} {P : List D → Prop} : wF (dCat (pD a) (pD b)) P = (a.length + b.length ≤ 16777216 ∧ P ((a ++ b).map Z.pairD)) := by
  unfold dCat pD
  simp only [List.length_map, sl_16]
  by_cases h : a.length + b.length ≤ 16777216
  · simp only [decide_eq_true h]
    simp only [h, true_and, wF_some, List.map_append]
  · simp only [decide_eq_false h]
    simp only [h, false_and]
    rfl
theorem f_rep_i {a : List Int} {n : Int} {P : List D → Prop} : wF (dRep (iD a) (.int n)) P = ((-(2 ^ 63) ≤ n ∧ n < 2 ^ 63 ∧ a.length * n.toNat ≤ 16777216) ∧ P ((List.replicate n.toNat a).flatten.map .int)) := by
  unfold dRep iD
  simp only [List.length_map, sl_16]
  by_cases h : -(2 ^ 63) ≤ n ∧ n < 2 ^ 63 ∧ a.length * n.toNat ≤ 16777216
  · simp only [decide_eq_true h]
    simp only [h, and_self, true_and, wF_some, List.map_flatten, List.map_replicate]
  · simp only [decide_eq_false h]
    simp only [h, false_and]
    rfl
theorem minL_map {ns : List Int} {P : D → Prop} : wF (fMinL [iD ns]) P = wF (minL ns) fun n => P (.int n) := by
  unfold fMinL f1L iD
  simp only [lstD, seqD, Option.bind_some, intsD_map, wF_map]
theorem maxL_map {ns : List Int} {P : D → Prop} : wF (fMaxL [iD ns]) P = wF (maxL ns) fun n => P (.int n) := by
  unfold fMaxL f1L iD
  simp only [lstD, seqD, Option.bind_some, intsD_map, wF_map]
theorem sum_map {ns : List Int} {P : D → Prop} : wF (fSum [iD ns]) P = P (.int ns.sum) := by
  unfold fSum f1L iD
  simp only [lstD, seqD, Option.bind_some, intsD_map, wF_some]
theorem all_map {bs : List Bool} {P : D → Prop} : wF (fAll [bD bs]) P = P (.bl (bs.all id)) := by
  unfold fAll f1B bD
  simp only [lstD, Option.bind_some, bsD_map, wF_some]
theorem any_map {bs : List Bool} {P : D → Prop} : wF (fAny [bD bs]) P = P (.bl (bs.any id)) := by
  unfold fAny f1B bD
  simp only [lstD, Option.bind_some, bsD_map, wF_some]
theorem f_int1 {i : Int} {P : D → Prop} : wF (fInt [.int i]) P = P (.int i) := propext Iff.rfl
theorem f_intB {b : Bool} {P : D → Prop} : wF (fInt [.bl b]) P = P (.int (if b then 1 else 0)) := propext Iff.rfl
/-! walks -/
def rng (lo hi : Int) : List Int := (List.range (hi - lo).toNat).map fun i : Nat => lo + i
theorem rng_len {lo hi : Int} : (rng lo hi).length = (hi - lo).toNat := by unfold rng; rw [List.length_map, List.length_range]
theorem rng_mem {lo hi x : Int} : x ∈ rng lo hi ↔ lo ≤ x ∧ x < hi := by
  unfold rng
  rw [List.mem_map]
  constructor
  · rintro ⟨i, hi', rfl⟩
    have := List.mem_range.mp hi'
    omega
  · rintro ⟨h0, h1⟩
    exact ⟨(x - lo).toNat, List.mem_range.mpr (by omega), by omega⟩
theorem rng_at {lo hi : Int} {i : Nat} {x : Int} (h : (rng lo hi)[i]? = some x) : x = lo + i ∧ lo + i < hi := by
  unfold rng at h
  rw [List.getElem?_map] at h
  cases e : (List.range (hi - lo).toNat)[i]? with
  | none => rw [e] at h; cases h
  | some j =>
    obtain ⟨h1, h2⟩ := List.getElem?_eq_some_iff.mp e
    rw [List.length_range] at h1
    rw [List.getElem_range] at h2
    subst h2
    rw [e] at h
    cases h
    exact ⟨rfl, by omega⟩
theorem rng_sorted {lo hi : Int} : (rng lo hi).Pairwise (· < ·) := by
  unfold rng
  exact List.Pairwise.map (R := fun a b : Nat => a < b) _ (fun a b h => by omega) List.pairwise_lt_range
theorem rng_nodup {lo hi : Int} : (rng lo hi).Nodup := rng_sorted.imp fun h e => by omega
theorem it_r1 {j : Int} {P : List D → Prop} : wF (itR1 [.int j]) P = ((-(2 ^ 62) ≤ j ∧ j < 2 ^ 62) ∧ P ((rng 0 j).map .int)) := by
  have e2 : rangeD 0 j.toNat = (rng 0 j).map .int := by
    unfold rangeD rng
    rw [List.map_map]
    congr 2
    omega
  by_cases h : -(2 ^ 62) ≤ j ∧ j < 2 ^ 62
  · have e : itR1 [.int j] = some (rangeD 0 j.toNat) := by unfold itR1; simp only [decide_eq_true h]
    rw [e, e2]; simp only [h, and_self, true_and, wF]
  · have e : itR1 [.int j] = none := by unfold itR1; simp only [decide_eq_false h]
    rw [e]; simp only [h, false_and, wF]
theorem it_r2 {i j : Int} {P : List D → Prop} : wF (itR2 [.int i, .int j]) P = ((-(2 ^ 62) ≤ i ∧ i < 2 ^ 62 ∧ -(2 ^ 62) ≤ j ∧ j < 2 ^ 62) ∧ P ((rng i j).map .int)) := by
  have e2 : rangeD i (j - i).toNat = (rng i j).map .int := by
    unfold rangeD rng
    rw [List.map_map]
    rfl
  by_cases h : -(2 ^ 62) ≤ i ∧ i < 2 ^ 62 ∧ -(2 ^ 62) ≤ j ∧ j < 2 ^ 62
  · have e : itR2 [.int i, .int j] = some (rangeD i (j - i).toNat) := by unfold itR2; simp only [decide_eq_true h]
    rw [e, e2]; simp only [h, and_self, true_and, wF]
  · have e : itR2 [.int i, .int j] = none := by unfold itR2; simp only [decide_eq_false h]
    rw [e]; simp only [h, false_and, wF]
theorem f_rg {i j : Int} {P : List D → Prop} : wF (dRg (.int i) (.int j)) P = ((-(2 ^ 62) ≤ i ∧ i < 2 ^ 62 ∧ -(2 ^ 62) ≤ j ∧ j < 2 ^ 62 ∧ (j - i).toNat ≤ 2 ^ 24) ∧ P ((rng i j).map .int)) := by
  have e2 : rgD i j = (rng i j).map .int := by
    unfold rgD rng
    rw [List.map_map]
    rfl
  unfold dRg rgOk
  by_cases h : -(2 ^ 62) ≤ i ∧ i < 2 ^ 62 ∧ -(2 ^ 62) ≤ j ∧ j < 2 ^ 62 ∧ (j - i).toNat ≤ 2 ^ 24
  · simp only [decide_eq_true h]
    rw [e2]; simp only [h, and_self, true_and, wF]
  · simp only [decide_eq_false h]
    simp only [h, false_and, wF]
theorem itL_i {ns : List Int} {P : List D → Prop} : wF (itL (iD ns)) P = P (ns.map .int) := propext Iff.rfl
theorem itL_p {ns : List (Int × Int)} {P : List D → Prop} : wF (itL (pD ns)) P = P (ns.map Z.pairD) := propext Iff.rfl
theorem itL_r {ns : List (List Int)} {P : List D → Prop} : wF (itL (rD ns)) P = P (ns.map iD) := propext Iff.rfl
theorem itL_b {ns : List Bool} {P : List D → Prop} : wF (itL (bD ns)) P = P (ns.map .bl) := propext Iff.rfl
theorem itS_i {ns : List Int} {P : List D → Prop} : wF (itS (iD ns)) P = P (ns.map .int) := propext Iff.rfl
theorem itS_r {ns : List (List Int)} {P : List D → Prop} : wF (itS (rD ns)) P = P (ns.map iD) := propext Iff.rfl
theorem for_map {g : Tg} {b : MS} {f : α → D} {xs : List α} (I : Nat → List Sl → Prop) (h : I 0 S) (st : ∀ (i : Nat) (x : α) (S : List Sl), xs[i]? = some x → I i S → wF (g (f x) S) fun S1 => wS b S1 ⟨I (i + 1), k.r, k.n, I (i + 1)⟩) (e : ∀ S, I xs.length S → k.n S) : wOS (forGo g b (xs.map f) S) k :=
  for_inv I h (fun i d S hd hi => by
    rw [List.getElem?_map] at hd
    cases hx : xs[i]? with
    | none => rw [hx] at hd; cases hd
    | some x =>
      rw [hx] at hd
      cases hd
      exact st i x S hx hi) fun S h => e S (by rw [List.length_map] at h; exact h)
/-- a loop whose turns keep I -/
theorem for_keep {g : Tg} {b : MS} {f : α → D} {xs : List α} (I : List Sl → Prop) (h : I S) (st : ∀ x ∈ xs, ∀ S, I S → wF (g (f x) S) fun S1 => wS b S1 ⟨I, k.r, k.n, I⟩) (e : ∀ S, I S → k.n S) : wOS (forGo g b (xs.map f) S) k :=
  for_map (fun _ => I) h (fun i x S hx hi => st x (List.mem_of_getElem? hx) S hi) e
/-- a comprehension's turns -/
def wCmp (g : Tg) (t : M Bool) (e : M D) (vs : List Nat) (ds : List D) (S0 S : List Sl) (Q : O → List Sl → Prop) : Prop := wO (cmpGo g t e vs ds S) fun ys S2 => Q (.lst (ys.map .sh)) (restS S0 S2 vs)
theorem x_comp {mi : M (List D)} {g : Tg} {t : M Bool} {e : M D} {vs : List Nat} {Q : O → List Sl → Prop} : wM (mComp mi g t e vs) S Q = wM mi S fun ds S1 => (ds.length ≤ 16777216 ∧ (vs.all fun v => notOw S1[v]?) = true) ∧ wCmp g t e vs ds S1 (wipeS S1 vs) Q := w_comp0
theorem cmp_I {g : Tg} {t : M Bool} {e : M D} {vs : List Nat} {f : α → D} {xs : List α} {S0 : List Sl} {Q : O → List Sl → Prop} (I : Nat → List D → List Sl → Prop) (h : I 0 [] S)
    (st : ∀ (i : Nat) (x : α) (acc : List D) (S : List Sl), xs[i]? = some x → I i acc S → wF (g (f x) S) fun S1 => wM t S1 fun b S2 => (b = true → wM e S2 fun x S3 => I (i + 1) (acc ++ [x]) (wipeS S3 vs)) ∧ (b = false → I (i + 1) acc (wipeS S2 vs)))
    (en : ∀ ys S', I xs.length ys S' → Q (.lst (ys.map .sh)) (restS S0 S' vs)) : wCmp g t e vs (xs.map f) S0 S Q :=
  comp_inv I h (fun i d acc S hd hi => by
    rw [List.getElem?_map] at hd
    cases hx : xs[i]? with
    | none => rw [hx] at hd; cases hd
    | some x =>
      rw [hx] at hd
      cases hd
      exact st i x acc S hx hi) fun ys S' h => en ys S' (by rw [List.length_map] at h; exact h)
/-- a comprehension that changes nothing else -/
theorem cmp_map {g : Tg} {t : M Bool} {e : M D} {vs : List Nat} {f : α → D} {xs : List α} {Q : List D → List Sl → Prop} (p : α → Bool) (h : α → D)
    (st : ∀ x ∈ xs, wF (g (f x) S) fun S1 => wM t S1 fun b S2 => b = p x ∧ (p x = true → wM e S2 fun y S3 => y = h x ∧ wipeS S3 vs = S) ∧ (p x = false → wipeS S2 vs = S)) (en : Q ((xs.filter p).map h) S) : wO (cmpGo g t e vs (xs.map f) S) Q := by
  refine comp_inv (fun i acc S' => S' = S ∧ acc = ((xs.take i).filter p).map h) ⟨rfl, rfl⟩ (fun i d acc S' hd ⟨h1, h2⟩ => ?_) fun ys S' ⟨h1, h2⟩ => ?_
  · subst h1
    rw [List.getElem?_map] at hd
    cases hx : xs[i]? with
    | none => rw [hx] at hd; cases hd
    | some x =>
      rw [hx] at hd
      cases hd
      have hm := List.mem_of_getElem? hx
      have e1 : xs.take (i + 1) = xs.take i ++ [x] := by
        obtain ⟨hl, he⟩ := List.getElem?_eq_some_iff.mp hx
        rw [List.take_succ_eq_append_getElem hl, he]
      refine wF_mono (st x hm) fun S1 h3 => wM_mono h3 fun b S2 ⟨h4, h5, h6⟩ => ⟨fun hb => wM_mono (h5 (h4 ▸ hb)) fun y S3 ⟨h7, h8⟩ => ⟨h8, ?_⟩, fun hb => ⟨h6 (h4 ▸ hb), ?_⟩⟩
      · rw [e1, List.filter_append, List.map_append, ← h2, h7]
        rw [hb] at h4
        simp [← h4]
      · rw [e1, List.filter_append, List.map_append, ← h2]
        rw [hb] at h4
        simp [← h4]
  · subst h1
    rw [List.length_map, List.take_length] at h2
    rw [h2]
    exact en
theorem lst_sh_i {xs : List α} {h : α → Int} : O.lst ((xs.map fun x => D.int (h x)).map O.sh) = iO (xs.map h) := by
  unfold iO
  rw [List.map_map, List.map_map]
  rfl
/-- .. of ints -/
theorem cmp_i {g : Tg} {t : M Bool} {e : M D} {vs : List Nat} {f : α → D} {xs : List α} {S0 : List Sl} {Q : O → List Sl → Prop} (p : α → Bool) (h : α → Int)
    (st : ∀ x ∈ xs, wF (g (f x) S) fun S1 => wM t S1 fun b S2 => b = p x ∧ (p x = true → wM e S2 fun y S3 => y = .int (h x) ∧ wipeS S3 vs = S) ∧ (p x = false → wipeS S2 vs = S)) (en : Q (iO ((xs.filter p).map h)) (restS S0 S vs)) : wCmp g t e vs (xs.map f) S0 S Q :=
  cmp_map p (fun x => .int (h x)) st (by rw [lst_sh_i]; exact en)
/-- the ints that pass -/
theorem cmp_f {g : Tg} {t : M Bool} {e : M D} {vs : List Nat} {xs : List Int} {S0 : List Sl} {Q : O → List Sl → Prop} (p : Int → Bool)
    (st : ∀ x ∈ xs, wF (g (.int x) S) fun S1 => wM t S1 fun b S2 => b = p x ∧ (p x = true → wM e S2 fun y S3 => y = .int x ∧ wipeS S3 vs = S) ∧ (p x = false → wipeS S2 vs = S)) (en : Q (iO (xs.filter p)) (restS S0 S vs)) : wCmp g t e vs (xs.map .int) S0 S Q :=
  cmp_i p (fun x => x) st (by rw [List.map_id']; exact en)
theorem cmp_b {g : Tg} {t : M Bool} {e : M D} {vs : List Nat} {f : α → D} {xs : List α} {S0 : List Sl} {Q : O → List Sl → Prop} (p : α → Bool) (h : α → Bool)
    (st : ∀ x ∈ xs, wF (g (f x) S) fun S1 => wM t S1 fun b S2 => b = p x ∧ (p x = true → wM e S2 fun y S3 => y = .bl (h x) ∧ wipeS S3 vs = S) ∧ (p x = false → wipeS S2 vs = S)) (en : Q (bO ((xs.filter p).map h)) (restS S0 S vs)) : wCmp g t e vs (xs.map f) S0 S Q :=
  cmp_map p (fun x => .bl (h x)) st (by
    have e : O.lst (((xs.filter p).map fun x => D.bl (h x)).map O.sh) = bO ((xs.filter p).map h) := by
      unfold bO
      rw [List.map_map, List.map_map]
      rfl
    rw [e]; exact en)
theorem cmp_r {g : Tg} {t : M Bool} {e : M D} {vs : List Nat} {f : α → D} {xs : List α} {S0 : List Sl} {Q : O → List Sl → Prop} (p : α → Bool) (h : α → List Int)
    (st : ∀ x ∈ xs, wF (g (f x) S) fun S1 => wM t S1 fun b S2 => b = p x ∧ (p x = true → wM e S2 fun y S3 => y = iD (h x) ∧ wipeS S3 vs = S) ∧ (p x = false → wipeS S2 vs = S)) (en : Q (rsO ((xs.filter p).map h)) (restS S0 S vs)) : wCmp g t e vs (xs.map f) S0 S Q :=
  cmp_map p (fun x => iD (h x)) st (by
    have e : O.lst (((xs.filter p).map fun x => iD (h x)).map O.sh) = rsO ((xs.filter p).map h) := by
      unfold rsO
      rw [List.map_map, List.map_map]
      rfl
    rw [e]; exact en)
theorem w_mYes' {Q : Bool → List Sl → Prop} : wM mYes S Q = Q true S := propext Iff.rfl
def wAug (x : Option Sl) (P : D → Prop) : Prop := match x with
  | some (.pl d) => P d
  | _ => False
theorem s_aug {i : Nat} {f : D → D → Option D} {m : M D} : wS (sAug i f m) S k = wAug S[i]? fun x => wM m S fun y S1 => wF (f x y) fun z => k.n (S1.set i (.pl z)) := by
  unfold wS sAug wAug
  cases S[i]? with
  | none => rfl
  | some s =>
    cases s with
    | pl x =>
      simp only [wOS_sd]
      show wO (m S) _ = wO (m S) _
      congr
      funext y S1
      cases f x y <;> rfl
    | _ => rfl
theorem a_pl {d : D} {P : D → Prop} : wAug (some (.pl d)) P = P d := propext Iff.rfl
theorem s_bad : wS sBad S k = False := propext Iff.rfl
theorem s_retN : wS sRetN S k = k.r (.sh .non) S := propext Iff.rfl
theorem s_brk : wS sBrk S k = k.b S := propext Iff.rfl
theorem s_cnt : wS sCnt S k = k.c S := propext Iff.rfl
theorem w_par {i j : Nat} {m : M (List O)} : wS (sPar i j m) S k = wM m S fun os S1 => match os with
  | [o1, o2] => k.n ((S1.set i (slOf o1)).set j (slOf o2))
  | _ => False := by
  unfold wS sPar
  rw [wOS_sd]
  congr
  funext os S1
  match os with
  | [] => rfl
  | [_] => rfl
  | [_, _] => rfl
  | _ :: _ :: _ :: _ => rfl
def par2 (os : List O) (P : O → O → Prop) : Prop := match os with
  | [a, b] => P a b
  | _ => False
theorem s_par {i j : Nat} {m : M (List O)} : wS (sPar i j m) S k = wM m S fun os S1 => par2 os fun o1 o2 => k.n ((S1.set i (slOf o1)).set j (slOf o2)) := by
  rw [w_par]
  rfl
theorem par2_ok {a b : O} {P : O → O → Prop} : par2 [a, b] P = P a b := propext Iff.rfl
theorem sl_i {ns : List Int} : slOf (iO ns) = .ow (iO ns) := rfl
theorem sl_p {ns : List (Int × Int)} : slOf (pO ns) = .ow (pO ns) := rfl
theorem sl_rs {ns : List (List Int)} : slOf (rsO ns) = .ow (rsO ns) := rfl
theorem sl_b {ns : List Bool} : slOf (bO ns) = .ow (bO ns) := rfl
theorem sl_sh {d : D} : slOf (.sh d) = .pl d := rfl
theorem f_lstM {md : Bool} {ds : List D} {P : O → Prop} : wF (dLstM md ds) P = (ds.length ≤ 16777216 ∧ wF (mkL md ds) P) := by
  unfold dLstM
  rw [sl_16]
  by_cases h : ds.length ≤ 16777216
  · simp only [decide_eq_true h]
    simp only [h, true_and]
  · simp only [decide_eq_false h]
    simp only [h, false_and]
    rfl
theorem f_lst0 {P : O → Prop} : wF (dLst []) P = P (iO []) := by
  unfold dLst
  rw [decide_eq_true (by rw [sl_16]; exact Nat.zero_le _)]
  rfl
theorem dlst_ok {ds : List D} (h : ds.length ≤ 16777216) {P : O → Prop} : wF (dLst ds) P = P (.lst (ds.map .sh)) := by
  unfold dLst
  rw [decide_eq_true (by rw [sl_16]; exact h)]
  rfl
theorem f_lst1 {a : Int} {P : O → Prop} : wF (dLst [.int a]) P = P (iO [a]) := dlst_ok (by simp)
theorem f_lst2 {a b : Int} {P : O → Prop} : wF (dLst [.int a, .int b]) P = P (iO [a, b]) := dlst_ok (by simp)
theorem f_lst3 {a b c : Int} {P : O → Prop} : wF (dLst [.int a, .int b, .int c]) P = P (iO [a, b, c]) := dlst_ok (by simp)
theorem f_lst4 {a b c d : Int} {P : O → Prop} : wF (dLst [.int a, .int b, .int c, .int d]) P = P (iO [a, b, c, d]) := dlst_ok (by simp)
theorem f_lst5 {a b c d e : Int} {P : O → Prop} : wF (dLst [.int a, .int b, .int c, .int d, .int e]) P = P (iO [a, b, c, d, e]) := dlst_ok (by simp)
theorem f_lst6 {a b c d e f : Int} {P : O → Prop} : wF (dLst [.int a, .int b, .int c, .int d, .int e, .int f]) P = P (iO [a, b, c, d, e, f]) := dlst_ok (by simp)
theorem f_lstr1 {a : List Int} {P : O → Prop} : wF (dLst [iD a]) P = P (rsO [a]) := dlst_ok (by simp)
theorem f_lstr2 {a b : List Int} {P : O → Prop} : wF (dLst [iD a, iD b]) P = P (rsO [a, b]) := dlst_ok (by simp)
theorem f_tup2 {a b : Int} {P : O → Prop} : wF (dTup [.int a, .int b]) P = P (.tup [.sh (.int a), .sh (.int b)]) := by
  unfold dTup
  rw [decide_eq_true (by rw [sl_16]; simp)]
  rfl
end
end Z

/-! Y5: ==, repr of whole lists. -/
namespace Z
open PySem PySem.Spec PyProof.Rows L2
theorem can_i : ∀ ns : List Int, PyData.canLayAll0 (ns.map PyData.int) = true
  | [] => rfl
  | n :: ns => by
    show (true && PyData.canLayAll0 (ns.map PyData.int)) = true
    rw [can_i ns]
    rfl
theorem dep_i : ∀ ns : List Int, PyData.depthAll (ns.map PyData.int) = 0
  | [] => rfl
  | n :: ns => by
    show max 0 (PyData.depthAll (ns.map PyData.int)) = 0
    rw [dep_i ns]
    rfl
theorem eqv_i : ∀ a b : List Int, PyData.eqvAll (a.map PyData.int) (b.map PyData.int) = decide (a = b)
  | [], [] => by simp [PyData.eqvAll]
  | [], _ :: _ => by simp [PyData.eqvAll]
  | _ :: _, [] => by simp [PyData.eqvAll]
  | x :: a, y :: b => by
    simp only [List.map_cons, PyData.eqvAll, eqv_i a b, List.cons.injEq]
    rw [eqv_int]
    by_cases h : x = y <;> by_cases h2 : a = b <;> simp [h, h2]
theorem shp_i (ns : List Int) : SeqAt.shaped (.list (ns.map PyData.int)) = true := by
  unfold SeqAt.shaped
  have e1 : PyData.canLay0 (.list (ns.map PyData.int)) = true := can_i ns
  have e2 : PyData.depth (.list (ns.map PyData.int)) = 1 := by
    show PyData.depthAll (ns.map PyData.int) + 1 = 1
    rw [dep_i]
  rw [e1, e2]
  rfl
/-- data whose == is plain equality -/
def EqD (x y : D) (b : Bool) : Prop := eqB x y = some b
theorem eqB_of {x y : D} {p q : PyData} {b : Bool} (h1 : toPy x = some p) (h2 : toPy y = some q) (h3 : SeqAt.shaped p = true) (h4 : SeqAt.shaped q = true) (h5 : PyData.eqv p q = b) : eqB x y = some b := by
  unfold eqB
  rw [h1, h2]
  simp only [h3, h4, Bool.and_self, h5]
theorem eqB_i {a b : List Int} : eqB (iD a) (iD b) = some (decide (a = b)) :=
  eqB_of toPy_i toPy_i (shp_i a) (shp_i b) (by
    show PyData.eqvAll _ _ = _
    exact eqv_i a b)
theorem f_eq_i {a b : List Int} {P : D → Prop} : wF (dEq (iD a) (iD b)) P = P (.bl (decide (a = b))) := by
  unfold dEq
  rw [eqB_i]
  rfl
theorem f_ne_i {a b : List Int} {P : D → Prop} : wF (dNe (iD a) (iD b)) P = P (.bl (!decide (a = b))) := by
  unfold dNe
  rw [eqB_i]
  rfl
theorem toPyL_f {α : Type} (f : α → D) (g : α → PyData) (h : ∀ x, toPy (f x) = some (g x)) : ∀ xs : List α, toPyL (xs.map f) = some (xs.map g)
  | [] => rfl
  | n :: ns => by
    show (match toPy (f n), toPyL (ns.map f) with | some p, some ps => some (p :: ps) | _, _ => none) = _
    rw [toPyL_f f g h ns, h n]
    rfl
theorem can_f {α : Type} (g : α → PyData) (h : ∀ x, (g x).canLay0 = true) : ∀ ns : List α, PyData.canLayAll0 (ns.map g) = true
  | [] => rfl
  | n :: ns => by
    show ((g n).canLay0 && PyData.canLayAll0 (ns.map g)) = true
    rw [can_f g h ns, h n]
    rfl
theorem dep_f {α : Type} (g : α → PyData) (k : Nat) (h : ∀ x, (g x).depth ≤ k) : ∀ ns : List α, PyData.depthAll (ns.map g) ≤ k
  | [] => Nat.zero_le _
  | n :: ns => by
    show max (g n).depth (PyData.depthAll (ns.map g)) ≤ k
    have h1 := dep_f g k h ns
    have h2 := h n
    omega
theorem eqv_f {α : Type} [DecidableEq α] (g : α → PyData) (h : ∀ x y, PyData.eqv (g x) (g y) = decide (x = y)) : ∀ a b : List α, PyData.eqvAll (a.map g) (b.map g) = decide (a = b)
  | [], [] => by simp [PyData.eqvAll]
  | [], _ :: _ => by simp [PyData.eqvAll]
  | _ :: _, [] => by simp [PyData.eqvAll]
  | x :: a, y :: b => by
    simp only [List.map_cons, PyData.eqvAll, eqv_f g h a b, List.cons.injEq, h]
    by_cases h : x = y <;> by_cases h2 : a = b <;> simp [h, h2]
def pyI (ns : List Int) : PyData := .list (ns.map PyData.int)
def pyP (t : Int × Int) : PyData := .tuple [.int t.1, .int t.2]
theorem toPy_p (t : Int × Int) : toPy (Z.pairD t) = some (pyP t) := rfl
theorem toPy_r (nr : List (List Int)) : toPy (rD nr) = some (.list (nr.map pyI)) := by
  show (toPyL (nr.map iD)).map PyData.list = _
  rw [toPyL_f iD pyI (fun x => toPy_i)]
  rfl
theorem toPy_pl (ts : List (Int × Int)) : toPy (pD ts) = some (.list (ts.map pyP)) := by
  show (toPyL (ts.map Z.pairD)).map PyData.list = _
  rw [toPyL_f Z.pairD pyP toPy_p]
  rfl
theorem shp_f {α : Type} (g : α → PyData) (k : Nat) (hk : k < 60) (h : ∀ x, (g x).canLay0 = true) (h2 : ∀ x, (g x).depth ≤ k) (ns : List α) : SeqAt.shaped (.list (ns.map g)) = true := by
  unfold SeqAt.shaped
  have e1 : PyData.canLay0 (.list (ns.map g)) = true := can_f g h ns
  have e2 : PyData.depth (.list (ns.map g)) ≤ 64 := by
    show PyData.depthAll (ns.map g) + 1 ≤ 64
    have := dep_f g k h2 ns
    omega
  rw [e1, decide_eq_true e2]
  rfl
theorem pyI_dep (ns : List Int) : (pyI ns).depth ≤ 1 := by
  show PyData.depthAll (ns.map PyData.int) + 1 ≤ 1
  rw [dep_i]
  omega
theorem pyP_dep (t : Int × Int) : (pyP t).depth ≤ 1 := Nat.le_refl _
theorem pyP_eqv (s t : Int × Int) : PyData.eqv (pyP s) (pyP t) = decide (s = t) := by
  show (PyData.eqv (.int s.1) (.int t.1) && (PyData.eqv (.int s.2) (.int t.2) && PyData.eqvAll [] [])) = _
  rw [eqv_int, eqv_int]
  obtain ⟨a, b⟩ := s
  obtain ⟨c, d⟩ := t
  simp only [PyData.eqvAll, Bool.and_true, Prod.mk.injEq, Bool.decide_and]
theorem eqB_r {a b : List (List Int)} : eqB (rD a) (rD b) = some (decide (a = b)) :=
  eqB_of (toPy_r a) (toPy_r b) (shp_f pyI 1 (by omega) can_i pyI_dep a) (shp_f pyI 1 (by omega) can_i pyI_dep b) (by
    show PyData.eqvAll _ _ = _
    exact eqv_f pyI (fun x y => eqv_i x y) a b)
theorem eqB_p {a b : List (Int × Int)} : eqB (pD a) (pD b) = some (decide (a = b)) :=
  eqB_of (toPy_pl a) (toPy_pl b) (shp_f pyP 1 (by omega) (fun _ => rfl) pyP_dep a) (shp_f pyP 1 (by omega) (fun _ => rfl) pyP_dep b) (by
    show PyData.eqvAll _ _ = _
    exact eqv_f pyP pyP_eqv a b)
theorem f_eq_r {a b : List (List Int)} {P : D → Prop} : wF (dEq (rD a) (rD b)) P = P (.bl (decide (a = b))) := by
  unfold dEq
  rw [eqB_r]
  rfl
theorem f_ne_r {a b : List (List Int)} {P : D → Prop} : wF (dNe (rD a) (rD b)) P = P (.bl (!decide (a = b))) := by
  unfold dNe
  rw [eqB_r]
  rfl
theorem f_eq_p {a b : List (Int × Int)} {P : D → Prop} : wF (dEq (pD a) (pD b)) P = P (.bl (decide (a = b))) := by
  unfold dEq
  rw [eqB_p]
  rfl
theorem f_ne_p {a b : List (Int × Int)} {P : D → Prop} : wF (dNe (pD a) (pD b)) P = P (.bl (!decide (a = b))) := by
  unfold dNe
  rw [eqB_p]
  rfl
theorem f_eq_bl {a b : Bool} {P : D → Prop} : wF (dEq (.bl a) (.bl b)) P = P (.bl (a == b)) := by cases a <;> cases b <;> rfl
theorem f_ne_bl {a b : Bool} {P : D → Prop} : wF (dNe (.bl a) (.bl b)) P = P (.bl (a != b)) := by cases a <;> cases b <;> rfl
/-! repr -/
/-- what repr writes -/
def Rep (d : D) : Prop := ∃ p, toPy d = some p ∧ repOk p = true ∧ SeqAt.shaped p = true ∧ PyData.eqv p p = true
theorem log_small {n : Int} (h : n.natAbs < 10 ^ 12) : n.natAbs.log2 < 1920 := by
  by_cases h0 : n.natAbs = 0
  · rw [h0]; decide
  · have h1 : n.natAbs < 2 ^ 41 := Nat.lt_of_lt_of_le h (by decide)
    have := (Nat.log2_lt h0).mpr h1
    omega
theorem log_41 {n : Int} (h : n.natAbs < 10 ^ 12) : n.natAbs.log2 ≤ 40 := by
  by_cases h0 : n.natAbs = 0
  · rw [h0]; decide
  · have h1 : n.natAbs < 2 ^ 41 := Nat.lt_of_lt_of_le h (by decide)
    have := (Nat.log2_lt h0).mpr h1
    omega
/-- small ints -/
def Small (ns : List Int) : Prop := ∀ n ∈ ns, n.natAbs < 10 ^ 12
theorem show_i : ∀ {ns : List Int}, Small ns → PyData.showableAll (ns.map PyData.int) = true
  | [], _ => rfl
  | n :: ns, h => by
    show (decide (n.natAbs.log2 < 1920) && PyData.showableAll (ns.map PyData.int)) = true
    rw [show_i (ns := ns) fun m hm => h m (List.mem_cons_of_mem _ hm), decide_eq_true (log_small (h n List.mem_cons_self))]
    rfl
theorem wt_i : ∀ {ns : List Int}, Small ns → PyData.weightAll (ns.map PyData.int) ≤ 42 * ns.length
  | [], _ => Nat.zero_le _
  | n :: ns, h => by
    show PyData.weight (.int n) + 1 + PyData.weightAll (ns.map PyData.int) ≤ 42 * (ns.length + 1)
    have h1 := wt_i (ns := ns) fun m hm => h m (List.mem_cons_of_mem _ hm)
    have h2 : PyData.weight (.int n) ≤ 41 := by
      show (if n == 0 then 0 else n.natAbs.log2 + 1) ≤ 41
      have := log_41 (h n List.mem_cons_self)
      split <;> omega
    omega
theorem dic_i : ∀ ns : List Int, PyData.hasDictAll (ns.map PyData.int) = false
  | [] => rfl
  | n :: ns => by
    show (false || PyData.hasDictAll (ns.map PyData.int)) = false
    rw [dic_i ns]
    rfl
theorem repOk_of {p : PyData} (h1 : p.canLay0 = true) (h2 : p.depth ≤ 60) (h3 : p.weight ≤ 2 ^ 20) (h4 : p.intsShort 13 = true) (h5 : p.showable = true) : repOk p = true := by
  have hl : p.layable0 = true := by
    unfold PyData.layable0
    rw [h1, decide_eq_true (show p.depth ≤ 64 by omega), decide_eq_true h3]
    rfl
  have hs := PyData.shown_le_of_layable0 hl h4
  unfold repOk
  rw [h5, PyData.hasDict_of_canLay p h1, decide_eq_true h2, decide_eq_true (show p.shown.length ≤ sizeLine by rw [sl_16]; omega)]
  rfl
theorem rep_i {ns : List Int} (h : Small ns) (hl : ns.length ≤ 24000) : Rep (iD ns) := by
  refine ⟨pyI ns, toPy_i, repOk_of (can_i ns) (by have := pyI_dep ns; omega) ?_ (PyData.intsShortAll_ints ns h) (show_i h), shp_i ns, ?_⟩
  · show PyData.weightAll (ns.map PyData.int) ≤ 2 ^ 20
    have := wt_i h
    omega
  · show PyData.eqvAll _ _ = true
    rw [eqv_i]
    exact decide_eq_true rfl
theorem rep_eq {d : D} (h : Rep d) {P : D → Prop} : wF (dEq d d) P = P (.bl true) := by
  obtain ⟨p, h1, h2, h3, h4⟩ := h
  unfold dEq
  rw [eqB_of h1 h1 h3 h3 h4]
  rfl
/-! what is shown is a text -/
def OkS (x : Str) : Prop := ∀ c ∈ x.cps.toList, c < 0x110000
theorem okS_strOk {x : Str} (h : OkS x) : PyData.strOk x = true := by
  unfold PyData.strOk
  rw [Array.all_eq_true_iff_forall_mem]
  intro c hc
  exact decide_eq_true (h c (Array.mem_toList_iff.mpr hc))
theorem okS_app {a b : Str} (h : OkS a) (k : OkS b) : OkS (a ++ b) := fun c hc => by
  have e : (a ++ b).cps = a.cps ++ b.cps := rfl
  rw [e, Array.toList_append, List.mem_append] at hc
  exact hc.elim (h c) (k c)
theorem okS_of (s : String) : OkS (Str.ofString s) := fun c hc => by
  rw [Str.ofString_eq_toList] at hc
  have hc' : c ∈ s.toList.map Char.toNat := by simpa using hc
  obtain ⟨ch, _, rfl⟩ := List.mem_map.mp hc'
  have := ch.valid
  unfold UInt32.isValidChar Nat.isValidChar at this
  show ch.val.toNat < 0x110000
  omega
theorem okS_from : ∀ (ts : List Str) (k : Nat) (acc : Str), (∀ t ∈ ts, OkS t) → OkS acc → OkS (textFrom k acc ts)
  | [], _, _, _, h => h
  | t :: ts, k, acc, h, ha => okS_from ts (k + 1) _ (fun x hx => h x (List.mem_cons_of_mem _ hx)) (okS_app (okS_app ha (okS_of _)) (h t List.mem_cons_self))
theorem okS_join : ∀ (ts : List Str) (s : String), (∀ t ∈ ts, OkS t) → OkS (Str.join s ts)
  | [], s, _ => fun c hc => by simp [Str.join, Str.empty] at hc
  | [x], s, h => h x List.mem_cons_self
  | x :: y :: r, s, h => okS_app (okS_app (h x List.mem_cons_self) (okS_of s)) (okS_join (y :: r) s fun t ht => h t (List.mem_cons_of_mem _ ht))
mutual
def noS : PyData → Bool
  | .none | .bool _ | .int _ => true
  | .str _ => false
  | .list xs | .tuple xs => noSA xs
  | .dict _ => false
def noSA : List PyData → Bool
  | [] => true
  | x :: xs => noS x && noSA xs
end
mutual
theorem okS_shown : ∀ p : PyData, noS p = true → OkS p.shown
  | .none, _ => okS_of "None"
  | .bool true, _ => okS_of "True"
  | .bool false, _ => okS_of "False"
  | .int i, _ => okS_of _
  | .str _, h => by cases h
  | .list xs, h => by
    show OkS (listText (PyData.shownAll xs))
    exact okS_app (okS_from _ _ _ (okS_shownA xs (by simpa only [noS] using h)) (okS_of _)) (okS_of _)
  | .tuple xs, h => by
    show OkS (tupleText (PyData.shownAll xs))
    exact okS_app (okS_app (okS_of _) (okS_join _ _ (okS_shownA xs (by simpa only [noS] using h)))) (okS_of _)
  | .dict _, h => by cases h
theorem okS_shownA : ∀ xs : List PyData, noSA xs = true → ∀ t ∈ PyData.shownAll xs, OkS t
  | [], _, t, ht => by simp [PyData.shownAll] at ht
  | x :: xs, h, t, ht => by
    have h' : noS x = true ∧ noSA xs = true := by simpa only [noSA, Bool.and_eq_true] using h
    have ht' : t ∈ PyData.shown x :: PyData.shownAll xs := ht
    rcases List.mem_cons.mp ht' with e | e
    · rw [e]; exact okS_shown x h'.1
    · exact okS_shownA xs h'.2 t e
end
theorem noS_i : ∀ ns : List Int, noSA (ns.map PyData.int) = true
  | [] => rfl
  | n :: ns => by
    show (true && noSA (ns.map PyData.int)) = true
    rw [noS_i ns]
    rfl
theorem f_eq_s {x y : Str} (h1 : x = y) (h2 : PyData.strOk x = true) {P : D → Prop} : wF (dEq (.str x) (.str y)) P = P (.bl true) := by
  subst h1
  have sh : SeqAt.shaped (.str x) = true := by
    unfold SeqAt.shaped
    rw [show PyData.canLay0 (.str x) = true by simpa only [PyData.canLay0] using h2]
    rfl
  unfold dEq
  rw [eqB_of (p := .str x) (q := .str x) (b := true) rfl rfl sh sh (by show (x == x) = true; exact beq_self_eq_true x)]
  rfl
/-- repr of equal things, compared -/
def RepS (d : D) : Prop := ∃ p, toPy d = some p ∧ repOk p = true ∧ SeqAt.shaped p = true ∧ PyData.eqv p p = true ∧ noS p = true
theorem reps_i {ns : List Int} (h : Small ns) (hl : ns.length ≤ 24000) : RepS (iD ns) := by
  obtain ⟨p, h1, h2, h3, h4⟩ := rep_i h hl
  refine ⟨p, h1, h2, h3, h4, ?_⟩
  have e : p = pyI ns := Option.some.inj (h1.symm.trans toPy_i)
  rw [e]
  exact noS_i ns
theorem f_repr {d : D} (h : RepS d) : ∃ x : Str, PyData.strOk x = true ∧ fRepr [d] = some (.str x) := by
  obtain ⟨p, h1, h2, h3, h4, h5⟩ := h
  refine ⟨p.shown, okS_strOk (okS_shown p h5), ?_⟩
  show ((toPy d).bind fun p => match repOk p with
    | true => some (D.str p.shown)
    | false => none) = _
  rw [h1, Option.bind_some, h2]
/-! read and set in own lists -/
theorem rd_map {α : Type} {f : α → O} {xs : List α} {r : Int} {P : O → Prop} : wI (some (.lst (xs.map f))) (.int r) (fun j => wF (oget (.lst (xs.map f)) [.ix j]) P) = wF (atI xs r) fun x => P (f x) := by
  show wF (ixN (xs.map f).length r) _ = _
  unfold atI
  rw [List.length_map]
  cases ixN xs.length r with
  | none => rfl
  | some j =>
    show wF (oget (.lst (xs.map f)) [.ix j]) P = wF xs[j]? _
    rw [og_lst, List.getElem?_map]
    cases xs[j]? <;> rfl
theorem rdL_map {α : Type} {f : α → D} {xs : List α} {r : Int} {P : D → Prop} : wI (some (.lst (xs.map fun x => O.sh (f x)))) (.int r) (fun j => wL (oget (.lst (xs.map fun x => O.sh (f x))) [.ix j]) P) = wF (atI xs r) fun x => P (f x) := by
  show wF (ixN (xs.map fun x => O.sh (f x)).length r) _ = _
  unfold atI
  rw [List.length_map]
  cases ixN xs.length r with
  | none => rfl
  | some j =>
    show wL (oget (.lst (xs.map fun x => O.sh (f x))) [.ix j]) P = wF xs[j]? _
    rw [og_lst, List.getElem?_map]
    cases xs[j]? <;> rfl
theorem rd_i {ns : List Int} {r : Int} {P : D → Prop} : wI (some (iO ns)) (.int r) (fun j => wL (oget (iO ns) [.ix j]) P) = wF (atI ns r) fun n => P (.int n) := rdL_map
theorem rd_b {ns : List Bool} {r : Int} {P : D → Prop} : wI (some (bO ns)) (.int r) (fun j => wL (oget (bO ns) [.ix j]) P) = wF (atI ns r) fun n => P (.bl n) := rdL_map
theorem rd_p {ns : List (Int × Int)} {r : Int} {P : D → Prop} : wI (some (pO ns)) (.int r) (fun j => wL (oget (pO ns) [.ix j]) P) = wF (atI ns r) fun n => P (Z.pairD n) := rdL_map
theorem rd_rs {ns : List (List Int)} {r : Int} {P : D → Prop} : wI (some (rsO ns)) (.int r) (fun j => wL (oget (rsO ns) [.ix j]) P) = wF (atI ns r) fun n => P (iD n) := rdL_map
end Z

set_option maxHeartbeats 4000000
namespace W
open PySem PySem.Spec PyProof.Rows L2 Z
def top (i : Nat) : Stmt := PySem.Challenge.pw_oddposts_k23_pieces_and_signs.main.body.getD i (.Pass ⟨0, 0, 0, 0⟩)
def cst (i j : Nat) : Stmt := (C8.clsBody (top i)).getD j (.Pass ⟨0, 0, 0, 0⟩)
abbrev s_is_integer : Stmt := top 8
def d_is_integer : He.DefD := ⟨("is_integer", none), "is_integer", "is_integer", defArgs s_is_integer, defBody s_is_integer, defScope s_is_integer, [], []⟩
abbrev s_is_post : Stmt := top 9
def d_is_post : He.DefD := ⟨("is_post", none), "is_post", "is_post", defArgs s_is_post, defBody s_is_post, defScope s_is_post, [], []⟩
abbrev s_are_posts : Stmt := top 10
def d_are_posts : He.DefD := ⟨("are_posts", none), "are_posts", "are_posts", defArgs s_are_posts, defBody s_are_posts, defScope s_are_posts, [], []⟩
abbrev s_is_tie : Stmt := top 13
def d_is_tie : He.DefD := ⟨("is_tie", none), "is_tie", "is_tie", defArgs s_is_tie, defBody s_is_tie, defScope s_is_tie, [], []⟩
abbrev s_check_tree : Stmt := top 14
def d_check_tree : He.DefD := ⟨("check_tree", none), "check_tree", "check_tree", defArgs s_check_tree, defBody s_check_tree, defScope s_check_tree, [], []⟩
abbrev s_near_of : Stmt := top 15
def d_near_of : He.DefD := ⟨("near_of", none), "near_of", "near_of", defArgs s_near_of, defBody s_near_of, defScope s_near_of, [], []⟩
abbrev s_Yard___init__ : Stmt := cst 17 0
def d_Yard___init__ : He.DefD := ⟨("Yard", some "__init__"), "__init__", "Yard.__init__", defArgs s_Yard___init__, defBody s_Yard___init__, defScope s_Yard___init__, [], []⟩
abbrev s_Yard_rewired : Stmt := cst 17 7
def d_Yard_rewired : He.DefD := ⟨("Yard", some "rewired"), "rewired", "Yard.rewired", defArgs s_Yard_rewired, defBody s_Yard_rewired, defScope s_Yard_rewired, [], []⟩
abbrev s__law_alike : Stmt := top 27
def d__law_alike : He.DefD := ⟨("_law_alike", none), "_law_alike", "_law_alike", defArgs s__law_alike, defBody s__law_alike, defScope s__law_alike, [], []⟩
abbrev s__law_bag : Stmt := top 19
def d__law_bag : He.DefD := ⟨("_law_bag", none), "_law_bag", "_law_bag", defArgs s__law_bag, defBody s__law_bag, defScope s__law_bag, [], []⟩
abbrev s__law_near : Stmt := top 24
def d__law_near : He.DefD := ⟨("_law_near", none), "_law_near", "_law_near", defArgs s__law_near, defBody s__law_near, defScope s__law_near, [], []⟩
abbrev s__law_pieces : Stmt := top 26
def d__law_pieces : He.DefD := ⟨("_law_pieces", none), "_law_pieces", "_law_pieces", defArgs s__law_pieces, defBody s__law_pieces, defScope s__law_pieces, [], []⟩
abbrev s__law_take : Stmt := top 20
def d__law_take : He.DefD := ⟨("_law_take", none), "_law_take", "_law_take", defArgs s__law_take, defBody s__law_take, defScope s__law_take, [], []⟩
abbrev s__law_some : Stmt := top 23
def d__law_some : He.DefD := ⟨("_law_some", none), "_law_some", "_law_some", defArgs s__law_some, defBody s__law_some, defScope s__law_some, [], []⟩
abbrev s__law_parents : Stmt := top 21
def d__law_parents : He.DefD := ⟨("_law_parents", none), "_law_parents", "_law_parents", defArgs s__law_parents, defBody s__law_parents, defScope s__law_parents, [], []⟩
abbrev s__law_ties : Stmt := top 22
def d__law_ties : He.DefD := ⟨("_law_ties", none), "_law_ties", "_law_ties", defArgs s__law_ties, defBody s__law_ties, defScope s__law_ties, [], []⟩
abbrev s__law_wires : Stmt := top 25
def d__law_wires : He.DefD := ⟨("_law_wires", none), "_law_wires", "_law_wires", defArgs s__law_wires, defBody s__law_wires, defScope s__law_wires, [], []⟩
abbrev s_Yard_neighbours : Stmt := cst 17 4
def d_Yard_neighbours : He.DefD := ⟨("Yard", some "neighbours"), "neighbours", "Yard.neighbours", defArgs s_Yard_neighbours, defBody s_Yard_neighbours, defScope s_Yard_neighbours, [], []⟩
abbrev s_pieces : Stmt := top 1
def d_pieces : He.DefD := ⟨("pieces", none), "pieces", "pieces", defArgs s_pieces, defBody s_pieces, defScope s_pieces, [], []⟩
abbrev s_Yard_ties : Stmt := cst 17 2
def d_Yard_ties : He.DefD := ⟨("Yard", some "ties"), "ties", "Yard.ties", defArgs s_Yard_ties, defBody s_Yard_ties, defScope s_Yard_ties, [], []⟩
abbrev s_Yard_wired : Stmt := cst 17 3
def d_Yard_wired : He.DefD := ⟨("Yard", some "wired"), "wired", "Yard.wired", defArgs s_Yard_wired, defBody s_Yard_wired, defScope s_Yard_wired, [], []⟩
abbrev s_sign : Stmt := top 2
def d_sign : He.DefD := ⟨("sign", none), "sign", "sign", defArgs s_sign, defBody s_sign, defScope s_sign, [], []⟩
abbrev s_law : Stmt := top 28
def d_law : He.DefD := ⟨("law", none), "law", "law", defArgs s_law, defBody s_law, defScope s_law, [], []⟩
def fn : List He.DefD := [d_is_integer, d_is_post, d_are_posts, d_is_tie, d_check_tree, d_near_of, d_Yard___init__, d_Yard_rewired, d__law_alike, d__law_bag, d__law_near, d__law_pieces, d__law_take, d__law_some, d__law_parents, d__law_ties, d__law_wires, d_Yard_neighbours, d_pieces, d_Yard_ties, d_Yard_wired, d_sign, d_law]
def fa0 : List He.Fa := [.free "isinstance", .free "int", .free "bool", .glo "is_integer", .free "list", .free "tuple", .glo "is_post", .free "all", .free "len", .free "set", .free "range", .free "enumerate"]
def fa1 : List He.Fa := [.glo "is_tie", .free "sorted", .int "MOST_SIZE" 60, .glo "are_posts", .glo "check_tree", .cls "Yard", .noat "Yard" "kept_size", .noat "Yard" "kept_ties", .noat "Yard" "kept_wired", .glo "near_of", .noat "Yard" "kept_near", .mkr "Yard"]
def fa2 : List He.Fa := [.glo "Yard", .free "repr", .free "abs", .glo "_law_take", .free "max", .glo "_law_parents", .glo "_law_some", .meth "Yard" "neighbours", .meth "Yard" "ties", .meth "Yard" "wired", .glo "_law_bag", .glo "_law_ties"]
def fa3 : List He.Fa := [.glo "_law_near", .glo "_law_wires", .glo "_law_pieces", .glo "pieces", .glo "_law_alike", .glo "sign", .meth "Yard" "rewired", .glo "law"]
def fa : List He.Fa := fa0 ++ (fa1 ++ (fa2 ++ (fa3)))
abbrev ev (K : PySem.W.Frag) : Ev := ⟨K, He.ga K⟩
section
variable {P : Program} {w : World} {K : PySem.W.Frag} {h : Heap} {mg : Str → Option Value} {base : Heap}
/-! is_integer -/
def m_is_integer : MS := (sRet (mSh (mBl (mAnd (mTst (m1x (dIsi (isT .int) noO) (mVar 0))) (mTst (mBl (mNot (mTst (m1x (dIsi (isT .bl) noO) (mVar 0))))))))))
def f_is_integer : Fn := mkFn 1 m_is_integer
theorem sc_is_integer : FnScope ["thing"] ["thing"] (defScope s_is_integer) := ⟨rfl, rfl, rfl, by decide +kernel, rfl, by decide +kernel, by decide +kernel⟩
theorem bd_is_integer (X0 : K.In h) (G0 : h.Ns mainGlobals mg) (cc : He.SaysD fa fn K) {fd : FuncData} (F : FunD K d_is_integer.name d_is_integer.qual d_is_integer.params d_is_integer.body d_is_integer.scope (d_is_integer.dvs K) (d_is_integer.kws K) (He.fAd K d_is_integer.at_) fd) : FnG P w K mg base (L2.CX P w) 1 (He.fAd K d_is_integer.at_) fd ["thing"] (spM (ev K) 1 [] f_is_integer) := by
  have sc := sc_is_integer
  refine okG (k := 0) F sc rfl ?_
  intro cdv A outer s H W c hr hgd hE hio
  have n_isinstance := He.free_ok X0 G0 (cc.fact 0 (f := .free "isinstance") rfl)
  have n_int := He.free_ok X0 G0 (cc.fact 1 (f := .free "int") rfl)
  have n_bool := He.free_ok X0 G0 (cc.fact 2 (f := .free "bool") rfl)
  have hu := hr.units
  obtain ⟨E0, G1, H1, B1, io1, vs1⟩ := c
  cases hE
  cases hio
  unfold m_is_integer
  exact (zOne (zRet (zSh (zAndV (zIsi (T := .int) (by rfl) (by rfl) n_isinstance (by rfl) n_int PyProof.Rows.boot_int (zVar (i := 0))) (zAnd1 (zNotV (zIsi (T := .bl) (by rfl) (by rfl) n_isinstance (by rfl) n_bool boot_bool (zVar (i := 0)))))))))
theorem ok_is_integer (X0 : K.In h) (G0 : h.Ns mainGlobals mg) (cc : He.SaysD fa fn K) : ∃ fd, FnG P w K mg base (L2.CX P w) 1 (He.fAd K d_is_integer.at_) fd ["thing"] (spM (ev K) 1 [] f_is_integer) ∧ Binds K fd ["thing"] [] ∧ PySem.W.keepIn K (.ref (He.fAd K d_is_integer.at_)) = true := by
  obtain ⟨fd, F⟩ := cc.def_ 0 (d := d_is_integer) rfl
  exact ⟨fd, bd_is_integer X0 G0 cc F, (F.bindsN fun _ _ _ _ _ _ us hl => match us, hl with | [_], _ => rfl), F.kp⟩
/-! is_post -/
def m_is_post : MS := (sRet (mSh (mBl (mAnd (mTst (mFr (mCall 1 [] f_is_integer (mCons (aD (mVar 0)) (mC []))))) (mTst (mCh dLe dLt (mC (.int 0)) (mVar 0) (mVar 1)))))))
def f_is_post : Fn := mkFn 2 m_is_post
theorem sc_is_post : FnScope ["thing", "size"] ["thing", "size"] (defScope s_is_post) := ⟨rfl, rfl, rfl, by decide +kernel, rfl, by decide +kernel, by decide +kernel⟩
theorem bd_is_post (X0 : K.In h) (G0 : h.Ns mainGlobals mg) (cc : He.SaysD fa fn K) {fd : FuncData} (F : FunD K d_is_post.name d_is_post.qual d_is_post.params d_is_post.body d_is_post.scope (d_is_post.dvs K) (d_is_post.kws K) (He.fAd K d_is_post.at_) fd) : FnG P w K mg base (L2.CX P w) 2 (He.fAd K d_is_post.at_) fd ["thing", "size"] (spM (ev K) 2 [] f_is_post) := by
  have sc := sc_is_post
  refine okG (k := 1) F sc rfl ?_
  intro cdv A outer s H W c hr hgd hE hio
  have g_is_integer := He.glo_ok X0 G0 (cc.fact 3 (f := .glo "is_integer") rfl)
  obtain ⟨fd_is_integer, F_is_integer, b_is_integer, k_f_is_integer⟩ := ok_is_integer (P := P) (w := w) (base := base) X0 G0 cc
  have hu := hr.units
  obtain ⟨E0, G1, H1, B1, io1, vs1⟩ := c
  cases hE
  cases hio
  unfold m_is_post
  exact (zOne (zRet (zSh (zAndV (zFr (zCall (bs := []) (F_is_integer.mono (by decide)) hr hgd (by rfl) g_is_integer k_f_is_integer b_is_integer (passes_call (takes_of rfl rfl rfl rfl) (fun _ _ _ _ h => h)) (zAd (zVar (i := 0)) aNil))) (zAnd1 (zCh12 zInt (zVar (i := 0)) (zVar (i := 1))))))))
theorem ok_is_post (X0 : K.In h) (G0 : h.Ns mainGlobals mg) (cc : He.SaysD fa fn K) : ∃ fd, FnG P w K mg base (L2.CX P w) 2 (He.fAd K d_is_post.at_) fd ["thing", "size"] (spM (ev K) 2 [] f_is_post) ∧ Binds K fd ["thing", "size"] [] ∧ PySem.W.keepIn K (.ref (He.fAd K d_is_post.at_)) = true := by
  obtain ⟨fd, F⟩ := cc.def_ 1 (d := d_is_post) rfl
  exact ⟨fd, bd_is_post X0 G0 cc F, (F.bindsN fun _ _ _ _ _ _ us hl => match us, hl with | [_, _], _ => rfl), F.kp⟩
/-! are_posts -/
def m_are_posts : MS := (sSeq (sIf (mOr (mNot (mTst (m1x (dIsi (isT2 .lst .tup) noO) (mVar 0)))) (mNot (mTst (m1x fAll (mCons (mFr (mComp (m1x itS (mVar 0)) (gNm 2) mYes (mFr (mCall 2 [] f_is_post (mCons (aD (mVar 2)) (mCons (aD (mVar 1)) (mC []))))) [2])) (mC [])))))) (sRet (mSh (mC (.bl false)))) sNext)
  (sRet (mSh (m2x dEq (m1x dCnt (mVar 0)) (m1x fLen (mCons (mVar 0) (mC [])))))))
def f_are_posts : Fn := mkFn 3 m_are_posts
theorem sc_are_posts : FnScope ["thing", "size", "post"] ["thing", "size"] (defScope s_are_posts) := ⟨rfl, rfl, rfl, by decide +kernel, rfl, by decide +kernel, by decide +kernel⟩
theorem bd_are_posts (X0 : K.In h) (G0 : h.Ns mainGlobals mg) (cc : He.SaysD fa fn K) {fd : FuncData} (F : FunD K d_are_posts.name d_are_posts.qual d_are_posts.params d_are_posts.body d_are_posts.scope (d_are_posts.dvs K) (d_are_posts.kws K) (He.fAd K d_are_posts.at_) fd) : FnG P w K mg base (L2.CX P w) 3 (He.fAd K d_are_posts.at_) fd ["thing", "size"] (spM (ev K) 2 [] f_are_posts) := by
  have sc := sc_are_posts
  refine okG (k := 2) F sc rfl ?_
  intro cdv A outer s H W c hr hgd hE hio
  have n_isinstance := He.free_ok X0 G0 (cc.fact 0 (f := .free "isinstance") rfl)
  have n_list := He.free_ok X0 G0 (cc.fact 4 (f := .free "list") rfl)
  have n_tuple := He.free_ok X0 G0 (cc.fact 5 (f := .free "tuple") rfl)
  have g_is_post := He.glo_ok X0 G0 (cc.fact 6 (f := .glo "is_post") rfl)
  have n_all := He.free_ok X0 G0 (cc.fact 7 (f := .free "all") rfl)
  have n_len := He.free_ok X0 G0 (cc.fact 8 (f := .free "len") rfl)
  have n_set := He.free_ok X0 G0 (cc.fact 9 (f := .free "set") rfl)
  obtain ⟨fd_is_post, F_is_post, b_is_post, k_f_is_post⟩ := ok_is_post (P := P) (w := w) (base := base) X0 G0 cc
  have hu := hr.units
  obtain ⟨E0, G1, H1, B1, io1, vs1⟩ := c
  cases hE
  cases hio
  unfold m_are_posts
  exact (zSeq (zIf (yOr (yNot (yVal (zIsi2 (T := .lst) (U := .tup) (by rfl) (by rfl) n_isinstance (by rfl) n_list PyProof.Rows.boot_list (by rfl) n_tuple PyProof.Rows.boot_tuple (zVar (i := 0))))) (yOr1 (yNot (yVal (zB (cr_all (by rfl)) (ans_all (by rfl)) PyProof.Rows.boot_all (by rfl) n_all (zCons (zFr (zComp (own := [("post", 2)]) (vs := [2]) (by rfl) sc.nd (zIs2 (by rfl) (zVar (i := 0))) (blkOk_by (N := ["thing", "size", "post"]) (sc := defScope s_are_posts) (by decide +kernel)) (by rfl) (by exact (show ∀ v ∈ ([2] : List Nat), v < 3 by decide)) (by exact (show ∀ v ∈ ([2] : List Nat), v ∉ ([] : List Nat) by decide)) (by decide) (fun _ _ _ _ _ => (zNm (i := 2) sc.nd (by rfl) (by first | exact Or.inl rfl | exact Or.inr rfl) (by exact (show (2 : Nat) ∉ ([] : List Nat) by decide)))) (fun _ _ _ _ _ => zNoIf) (fun _ _ _ _ _ => (zFr (zCall (bs := []) (F_is_post.mono (by decide)) hr hgd (by rfl) g_is_post k_f_is_post b_is_post passL (zAd (zVar (i := 2)) (zAd (zVar (i := 1)) aNil))))))) zNil)))))).pt (zOne (zRet (zSh zBl))) zDone)
  (zOne (zRet (zSh (zEq (by rfl) hu (zCntU (by rfl) (by rfl) (by rfl) n_len (by rfl) n_set (zVar (i := 0))) (zB call_len (ans_len (by rfl)) PySem.boot_len (by rfl) n_len (zCons (zVar (i := 0)) zNil)))))))
theorem ok_are_posts (X0 : K.In h) (G0 : h.Ns mainGlobals mg) (cc : He.SaysD fa fn K) : ∃ fd, FnG P w K mg base (L2.CX P w) 3 (He.fAd K d_are_posts.at_) fd ["thing", "size"] (spM (ev K) 2 [] f_are_posts) ∧ Binds K fd ["thing", "size"] [] ∧ PySem.W.keepIn K (.ref (He.fAd K d_are_posts.at_)) = true := by
  obtain ⟨fd, F⟩ := cc.def_ 2 (d := d_are_posts) rfl
  exact ⟨fd, bd_are_posts X0 G0 cc F, (F.bindsN fun _ _ _ _ _ _ us hl => match us, hl with | [_, _], _ => rfl), F.kp⟩
/-! is_tie -/
def m_is_tie : MS := (sSeq (sIf (mOr (mNot (mTst (m1x (dIsi (isT .tup) noO) (mVar 0)))) (mTst (m2x dNe (m1x fLen (mCons (mVar 0) (mC []))) (mC (.int 2))))) (sRet (mSh (mC (.bl false)))) sNext)
  (sRet (mSh (mBl (mAnd (mTst (mFr (mCall 2 [] f_is_post (mCons (aD (m2x dIx (mVar 0) (mC (.int 0)))) (mCons (aD (mVar 1)) (mC [])))))) (mTst (mBl (mAnd (mTst (mFr (mCall 2 [] f_is_post (mCons (aD (m2x dIx (mVar 0) (mC (.int 1)))) (mCons (aD (mVar 1)) (mC [])))))) (mTst (m2x dLt (m2x dIx (mVar 0) (mC (.int 0))) (m2x dIx (mVar 0) (mC (.int 1)))))))))))))
def f_is_tie : Fn := mkFn 2 m_is_tie
theorem sc_is_tie : FnScope ["thing", "size"] ["thing", "size"] (defScope s_is_tie) := ⟨rfl, rfl, rfl, by decide +kernel, rfl, by decide +kernel, by decide +kernel⟩
theorem bd_is_tie (X0 : K.In h) (G0 : h.Ns mainGlobals mg) (cc : He.SaysD fa fn K) {fd : FuncData} (F : FunD K d_is_tie.name d_is_tie.qual d_is_tie.params d_is_tie.body d_is_tie.scope (d_is_tie.dvs K) (d_is_tie.kws K) (He.fAd K d_is_tie.at_) fd) : FnG P w K mg base (L2.CX P w) 3 (He.fAd K d_is_tie.at_) fd ["thing", "size"] (spM (ev K) 2 [] f_is_tie) := by
  have sc := sc_is_tie
  refine okG (k := 2) F sc rfl ?_
  intro cdv A outer s H W c hr hgd hE hio
  have n_isinstance := He.free_ok X0 G0 (cc.fact 0 (f := .free "isinstance") rfl)
  have n_tuple := He.free_ok X0 G0 (cc.fact 5 (f := .free "tuple") rfl)
  have n_len := He.free_ok X0 G0 (cc.fact 8 (f := .free "len") rfl)
  have g_is_post := He.glo_ok X0 G0 (cc.fact 6 (f := .glo "is_post") rfl)
  obtain ⟨fd_is_post, F_is_post, b_is_post, k_f_is_post⟩ := ok_is_post (P := P) (w := w) (base := base) X0 G0 cc
  have hu := hr.units
  obtain ⟨E0, G1, H1, B1, io1, vs1⟩ := c
  cases hE
  cases hio
  unfold m_is_tie
  exact (zSeq (zIf (yOr (yNot (yVal (zIsi (T := .tup) (by rfl) (by rfl) n_isinstance (by rfl) n_tuple PyProof.Rows.boot_tuple (zVar (i := 0))))) (yOr1 (yNe (by rfl) hu (zB call_len (ans_len (by rfl)) PySem.boot_len (by rfl) n_len (zCons (zVar (i := 0)) zNil)) zInt))).pt (zOne (zRet (zSh zBl))) zDone)
  (zOne (zRet (zSh (zAndV (zFr (zCall (bs := []) (F_is_post.mono (by decide)) hr hgd (by rfl) g_is_post k_f_is_post b_is_post (passes_call (takes_of rfl rfl rfl rfl) (fun _ _ _ _ h => h)) (zAd (zIx (by rfl) (zVar (i := 0)) zInt) (zAd (zVar (i := 1)) aNil)))) (zAndV (zFr (zCall (bs := []) (F_is_post.mono (by decide)) hr hgd (by rfl) g_is_post k_f_is_post b_is_post (passes_call (takes_of rfl rfl rfl rfl) (fun _ _ _ _ h => h)) (zAd (zIx (by rfl) (zVar (i := 0)) zInt) (zAd (zVar (i := 1)) aNil)))) (zAnd1 (zLt (zIx (by rfl) (zVar (i := 0)) zInt) (zIx (by rfl) (zVar (i := 0)) zInt)))))))))
theorem ok_is_tie (X0 : K.In h) (G0 : h.Ns mainGlobals mg) (cc : He.SaysD fa fn K) : ∃ fd, FnG P w K mg base (L2.CX P w) 3 (He.fAd K d_is_tie.at_) fd ["thing", "size"] (spM (ev K) 2 [] f_is_tie) ∧ Binds K fd ["thing", "size"] [] ∧ PySem.W.keepIn K (.ref (He.fAd K d_is_tie.at_)) = true := by
  obtain ⟨fd, F⟩ := cc.def_ 3 (d := d_is_tie) rfl
  exact ⟨fd, bd_is_tie X0 G0 cc F, (F.bindsN fun _ _ _ _ _ _ us hl => match us, hl with | [_, _], _ => rfl), F.kp⟩
/-! check_tree -/
def m_check_tree : MS := (sSeq (sAsg (mFr (m1N true (dRg (.int 0)) (mVar 0))) (gNm 2))
  (sSeq (sFor (m1x itEn (mCons (mVar 1) (mC []))) (gTp 2 (gsCons (gNm 3) (gsCons (gNm 4) gsNil))) (sSeq (sIf (mOr (mNot (mTst (mFr (mCall 2 [] f_is_tie (mCons (aD (mVar 4)) (mCons (aD (mVar 0)) (mC []))))))) (mTst (m2x dEq (m2x dIx (mVar 2) (m2x dIx (mVar 4) (mC (.int 0)))) (m2x dIx (mVar 2) (m2x dIx (mVar 4) (mC (.int 1))))))) sBad sNext)
  (sSeq (sAsg (mFr (m1x dTup (mCons (m2x dIx (mVar 2) (m2x dIx (mVar 4) (mC (.int 1)))) (mCons (m2x dIx (mVar 2) (m2x dIx (mVar 4) (mC (.int 0)))) (mC []))))) (gTp 2 (gsCons (gNm 5) (gsCons (gNm 6) gsNil))))
  (sAsg (mFr (mComp (m1x itL (mVar 2)) (gNm 7) mYes (mIf (mTst (m2x dEq (mVar 7) (mVar 5))) (mVar 6) (mVar 7)) [7])) (gNm 2)))))
  (sIf (mTst (m2x dLt (m1x fLen (mCons (mVar 1) (mC []))) (m2x dSub (mVar 0) (mC (.int 1))))) sBad sNext)))
def f_check_tree : Fn := mkFn 8 m_check_tree
theorem sc_check_tree : FnScope ["size", "ties", "labels", "at", "tie", "old", "new", "label"] ["size", "ties"] (defScope s_check_tree) := ⟨rfl, rfl, rfl, by decide +kernel, rfl, by decide +kernel, by decide +kernel⟩
theorem bd_check_tree (X0 : K.In h) (G0 : h.Ns mainGlobals mg) (cc : He.SaysD fa fn K) {fd : FuncData} (F : FunD K d_check_tree.name d_check_tree.qual d_check_tree.params d_check_tree.body d_check_tree.scope (d_check_tree.dvs K) (d_check_tree.kws K) (He.fAd K d_check_tree.at_) fd) : FnG P w K mg base (L2.CX P w) 4 (He.fAd K d_check_tree.at_) fd ["size", "ties"] (spM (ev K) 2 [] f_check_tree) := by
  have sc := sc_check_tree
  refine okG (k := 3) F sc rfl ?_
  intro cdv A outer s H W c hr hgd hE hio
  have n_list := He.free_ok X0 G0 (cc.fact 4 (f := .free "list") rfl)
  have n_range := He.free_ok X0 G0 (cc.fact 10 (f := .free "range") rfl)
  have n_enumerate := He.free_ok X0 G0 (cc.fact 11 (f := .free "enumerate") rfl)
  have g_is_tie := He.glo_ok X0 G0 (cc.fact 12 (f := .glo "is_tie") rfl)
  have n_len := He.free_ok X0 G0 (cc.fact 8 (f := .free "len") rfl)
  obtain ⟨fd_is_tie, F_is_tie, b_is_tie, k_f_is_tie⟩ := ok_is_tie (P := P) (w := w) (base := base) X0 G0 cc
  have hu := hr.units
  obtain ⟨E0, G1, H1, B1, io1, vs1⟩ := c
  cases hE
  cases hio
  unfold m_check_tree
  exact (zSeq (zAsg (zFr (zLr1 (by rfl) (by rfl) n_list (by rfl) n_range (zVar (i := 0)))) (zNm (i := 2) sc.nd (by rfl) (Or.inl rfl) (by exact (show (2 : Nat) ∉ ([] : List Nat) by decide))))
  (zSeq (zFor (passes_of (by rfl)) (by rfl) (zEnum (by rfl) (by rfl) n_enumerate (zCons (zVar (i := 1)) zNil)) (zTp (by rfl) (by rfl) (zTs1 (zNm (i := 3) sc.nd (by rfl) (Or.inl rfl) (by exact (show (3 : Nat) ∉ ([] : List Nat) by decide))) (zTs1 (zNm (i := 4) sc.nd (by rfl) (Or.inl rfl) (by exact (show (4 : Nat) ∉ ([] : List Nat) by decide))) zTs0))) (fun _ => (zSeq (zIf (yOr (yNot (yVal (zFr (zCall (bs := []) (F_is_tie.mono (by decide)) hr hgd (by rfl) g_is_tie k_f_is_tie b_is_tie (passes_call (takes_of rfl rfl rfl rfl) (fun _ _ _ _ h => h)) (zAd (zVar (i := 4)) (zAd (zVar (i := 0)) aNil)))))) (yOr1 (yEq (by rfl) hu (zIx (by rfl) (zVar (i := 2)) (zIx (by rfl) (zVar (i := 4)) zInt)) (zIx (by rfl) (zVar (i := 2)) (zIx (by rfl) (zVar (i := 4)) zInt))))).pt (zOne zBadS) zDone)
  (zSeq (zAsg (zFr (zTup (zCons (zIx (by rfl) (zVar (i := 2)) (zIx (by rfl) (zVar (i := 4)) zInt)) (zCons (zIx (by rfl) (zVar (i := 2)) (zIx (by rfl) (zVar (i := 4)) zInt)) zNil)))) (zTp (by rfl) (by rfl) (zTs1 (zNm (i := 5) sc.nd (by rfl) (Or.inr rfl) (by exact (show (5 : Nat) ∉ ([] : List Nat) by decide))) (zTs1 (zNm (i := 6) sc.nd (by rfl) (Or.inr rfl) (by exact (show (6 : Nat) ∉ ([] : List Nat) by decide))) zTs0))))
  (zOne (zAsgC (i := 2) (own := [("label", 7)]) (vs := [7]) (by rfl) sc.nd (by rfl) (by rfl) (by exact (show (2 : Nat) ∉ ([] : List Nat) by decide)) (sw_true (by rfl) (by rfl) (by rfl) (by decide +kernel)) (zIl (by rfl) (zVar (i := 2))) (blkOk_by (N := ["size", "ties", "labels", "at", "tie", "old", "new", "label"]) (sc := defScope s_check_tree) (by decide +kernel)) (by rfl) (by exact (show ∀ v ∈ ([7] : List Nat), v < 8 by decide)) (by exact (show ∀ v ∈ ([7] : List Nat), v ∉ ([] : List Nat) by decide)) (by decide) (fun _ _ _ _ _ => (zNm (i := 7) sc.nd (by rfl) (by first | exact Or.inl rfl | exact Or.inr rfl) (by exact (show (7 : Nat) ∉ ([] : List Nat) by decide)))) (fun _ _ _ _ _ => zNoIf) (fun _ _ _ _ _ => (zIfE (yEq (by rfl) hu (zVar (i := 7)) (zVar (i := 5))) (zVar (i := 6)) (zVar (i := 7))))))))))
  (zOne (zIf (yLt (zB call_len (ans_len (by rfl)) PySem.boot_len (by rfl) n_len (zCons (zVar (i := 1)) zNil)) (zSub (zVar (i := 0)) zInt)) (zOne zBadS) zDone))))
theorem ok_check_tree (X0 : K.In h) (G0 : h.Ns mainGlobals mg) (cc : He.SaysD fa fn K) : ∃ fd, FnG P w K mg base (L2.CX P w) 4 (He.fAd K d_check_tree.at_) fd ["size", "ties"] (spM (ev K) 2 [] f_check_tree) ∧ Binds K fd ["size", "ties"] [] ∧ PySem.W.keepIn K (.ref (He.fAd K d_check_tree.at_)) = true := by
  obtain ⟨fd, F⟩ := cc.def_ 4 (d := d_check_tree) rfl
  exact ⟨fd, bd_check_tree X0 G0 cc F, (F.bindsN fun _ _ _ _ _ _ us hl => match us, hl with | [_, _], _ => rfl), F.kp⟩
/-! near_of -/
def m_near_of : MS := (sSeq (sOwn (mCompO (m1x itR1 (mCons (mVar 0) (mC []))) (gNm 5) mYes (m1x dLst (mC [])) [5]) 2)
  (sSeq (sFor (m1x itL (mFr (m1x (mNew true gSort) (mCons (mVar 1) (mC []))))) (gTp 2 (gsCons (gNm 3) (gsCons (gNm 4) gsNil))) (sSeq (sDrop (mMut fApp 2 (pIx 2 (pVar 2) (mVar 3)) (mCons (mSh (mVar 4)) (mC []))))
  (sDrop (mMut fApp 2 (pIx 2 (pVar 2) (mVar 4)) (mCons (mSh (mVar 3)) (mC []))))))
  (sRet (mComp (m1x itL (mUse 2)) (gNm 6) mYes (mFr (m1x (mNew true gSort) (mCons (mVar 6) (mC [])))) [6]))))
def f_near_of : Fn := mkFn 7 m_near_of
theorem sc_near_of : FnScope ["size", "ties", "near", "one", "other", "post", "row"] ["size", "ties"] (defScope s_near_of) := ⟨rfl, rfl, rfl, by decide +kernel, rfl, by decide +kernel, by decide +kernel⟩
theorem bd_near_of (X0 : K.In h) (G0 : h.Ns mainGlobals mg) (cc : He.SaysD fa fn K) {fd : FuncData} (F : FunD K d_near_of.name d_near_of.qual d_near_of.params d_near_of.body d_near_of.scope (d_near_of.dvs K) (d_near_of.kws K) (He.fAd K d_near_of.at_) fd) : FnG P w K mg base (L2.CX P w) 1 (He.fAd K d_near_of.at_) fd ["size", "ties"] (spM (ev K) 2 [] f_near_of) := by
  have sc := sc_near_of
  refine okG (k := 0) F sc rfl ?_
  intro cdv A outer s H W c hr hgd hE hio
  have n_range := He.free_ok X0 G0 (cc.fact 10 (f := .free "range") rfl)
  have n_sorted := He.free_ok X0 G0 (cc.fact 13 (f := .free "sorted") rfl)
  have hu := hr.units
  obtain ⟨E0, G1, H1, B1, io1, vs1⟩ := c
  cases hE
  cases hio
  unfold m_near_of
  exact (zSeq (zOwnCO (i := 2) (own := [("post", 5)]) (vs := [5]) (by rfl) sc.nd (by rfl) (by rfl) (by exact (show (2 : Nat) ∉ ([] : List Nat) by decide)) (sw_true (by rfl) (by rfl) (by rfl) (by decide +kernel)) (zIr1 (by rfl) n_range (zCons (zVar (i := 0)) zNil)) (blkOk_by (N := ["size", "ties", "near", "one", "other", "post", "row"]) (sc := defScope s_near_of) (by decide +kernel)) (by rfl) (by exact (show ∀ v ∈ ([5] : List Nat), v < 7 by decide)) (by exact (show ∀ v ∈ ([5] : List Nat), v ∉ ([] : List Nat) by decide)) (by decide) (fun _ _ _ _ _ => (zNm (i := 5) sc.nd (by rfl) (by first | exact Or.inl rfl | exact Or.inr rfl) (by exact (show (5 : Nat) ∉ ([] : List Nat) by decide)))) (fun _ _ _ _ _ => zNoIf) (fun _ _ _ _ _ => (zLst zNil)))
  (zSeq (zFor (passes_of (by rfl)) (by rfl) (zIl (by rfl) (zFr (zBN (Z.CallR.or (Z.CallR.or cr_sortedI cr_sortedPO) cr_sortedTI) (ans_sort (by rfl)) PyProof.Rows.boot_sorted (by rfl) n_sorted (zCons (zVar (i := 1)) zNil)))) (zTp (by rfl) (by rfl) (zTs1 (zNm (i := 3) sc.nd (by rfl) (Or.inl rfl) (by exact (show (3 : Nat) ∉ ([] : List Nat) by decide))) (zTs1 (zNm (i := 4) sc.nd (by rfl) (Or.inl rfl) (by exact (show (4 : Nat) ∉ ([] : List Nat) by decide))) zTs0))) (fun _ => (zSeq (zDrop (zMut PySem.F.slot_list_append PySem.F.type_list_append mt_append ans_app (zPi (by rfl) (zPv (i := 2)) (zVar (i := 3))) (zAO1 (zSh (zVar (i := 4))) zAO0)))
  (zOne (zDrop (zMut PySem.F.slot_list_append PySem.F.type_list_append mt_append ans_app (zPi (by rfl) (zPv (i := 2)) (zVar (i := 4))) (zAO1 (zSh (zVar (i := 3))) zAO0)))))))
  (zOne (zRet (zComp (own := [("row", 6)]) (vs := [6]) (by rfl) sc.nd (zIl (by rfl) (zUse (i := 2) (hio := (by exact (show (2 : Nat) ∉ ([] : List Nat) by decide))))) (blkOk_by (N := ["size", "ties", "near", "one", "other", "post", "row"]) (sc := defScope s_near_of) (by decide +kernel)) (by rfl) (by exact (show ∀ v ∈ ([6] : List Nat), v < 7 by decide)) (by exact (show ∀ v ∈ ([6] : List Nat), v ∉ ([] : List Nat) by decide)) (by decide) (fun _ _ _ _ _ => (zNm (i := 6) sc.nd (by rfl) (by first | exact Or.inl rfl | exact Or.inr rfl) (by exact (show (6 : Nat) ∉ ([] : List Nat) by decide)))) (fun _ _ _ _ _ => zNoIf) (fun _ _ _ _ _ => (zFr (zBN (Z.CallR.or (Z.CallR.or cr_sortedI cr_sortedPO) cr_sortedTI) (ans_sort (by rfl)) PyProof.Rows.boot_sorted (by rfl) n_sorted (zCons (zVar (i := 6)) zNil)))))))))
theorem ok_near_of (X0 : K.In h) (G0 : h.Ns mainGlobals mg) (cc : He.SaysD fa fn K) : ∃ fd, FnG P w K mg base (L2.CX P w) 1 (He.fAd K d_near_of.at_) fd ["size", "ties"] (spM (ev K) 2 [] f_near_of) ∧ Binds K fd ["size", "ties"] [] ∧ PySem.W.keepIn K (.ref (He.fAd K d_near_of.at_)) = true := by
  obtain ⟨fd, F⟩ := cc.def_ 5 (d := d_near_of) rfl
  exact ⟨fd, bd_near_of X0 G0 cc F, (F.bindsN fun _ _ _ _ _ _ us hl => match us, hl with | [_, _], _ => rfl), F.kp⟩
/-! Yard.__init__ -/
def m_Yard___init__ : MS := (sSeq (sIf (mOr (mNot (mTst (mFr (mCall 1 [] f_is_integer (mCons (aD (mVar 1)) (mC [])))))) (mNot (mTst (mCh dLe dLe (mC (.int 1)) (mVar 1) (mC (.int 60)))))) sBad sNext)
  (sSeq (sIf (mOr (mNot (mTst (m1x (dIsi (isT .lst) noO) (mVar 2)))) (mTst (m2x dGt (m1x fLen (mCons (mVar 2) (mC []))) (m2x dSub (mC (.int 60)) (mC (.int 1)))))) sBad sNext)
  (sSeq (sIf (mNot (mTst (mFr (mCall 2 [] f_are_posts (mCons (aD (mVar 3)) (mCons (aD (mVar 1)) (mC []))))))) sBad sNext)
  (sSeq (sDrop (mCall 2 [] f_check_tree (mCons (aD (mVar 1)) (mCons (aD (mVar 2)) (mC [])))))
  (sSeq (sSetF "Yard" "kept_size" 0 (mSh (mVar 1)) (pVar 0))
  (sSeq (sSetF "Yard" "kept_ties" 0 (m1x (mNew true gSort) (mCons (mVar 2) (mC []))) (pVar 0))
  (sSeq (sSetF "Yard" "kept_wired" 0 (m1x (mNew true gSort) (mCons (mVar 3) (mC []))) (pVar 0))
  (sSetF "Yard" "kept_near" 0 (mCall 2 [] f_near_of (mCons (aD (mVar 1)) (mCons (aD (mVar 2)) (mC [])))) (pVar 0)))))))))
def f_Yard___init__ : Fn := mkFn 4 m_Yard___init__
theorem sc_Yard___init__ : FnScope ["self", "size", "ties", "wired"] ["self", "size", "ties", "wired"] (defScope s_Yard___init__) := ⟨rfl, rfl, rfl, by decide +kernel, rfl, by decide +kernel, by decide +kernel⟩
theorem bd_Yard___init__ (X0 : K.In h) (G0 : h.Ns mainGlobals mg) (cc : He.SaysD fa fn K) {fd : FuncData} (F : FunD K d_Yard___init__.name d_Yard___init__.qual d_Yard___init__.params d_Yard___init__.body d_Yard___init__.scope (d_Yard___init__.dvs K) (d_Yard___init__.kws K) (He.fAd K d_Yard___init__.at_) fd) : FnG P w K mg base (L2.CX P w) 5 (He.fAd K d_Yard___init__.at_) fd ["self", "size", "ties", "wired"] (spM (ev K) 4 [0] f_Yard___init__) := by
  have sc := sc_Yard___init__
  refine okG (k := 4) F sc rfl ?_
  intro cdv A outer s H W c hr hgd hE hio
  have g_is_integer := He.glo_ok X0 G0 (cc.fact 3 (f := .glo "is_integer") rfl)
  have n_MOST_SIZE := He.int_ok X0 G0 (cc.fact 14 (f := .int "MOST_SIZE" 60) rfl)
  have n_isinstance := He.free_ok X0 G0 (cc.fact 0 (f := .free "isinstance") rfl)
  have n_list := He.free_ok X0 G0 (cc.fact 4 (f := .free "list") rfl)
  have n_len := He.free_ok X0 G0 (cc.fact 8 (f := .free "len") rfl)
  have g_are_posts := He.glo_ok X0 G0 (cc.fact 15 (f := .glo "are_posts") rfl)
  have g_check_tree := He.glo_ok X0 G0 (cc.fact 16 (f := .glo "check_tree") rfl)
  have k_Yard := He.cls_ok (cc.fact 17 (f := .cls "Yard") rfl)
  have na_Yard_kept_size := He.noat_ok (cc.fact 18 (f := .noat "Yard" "kept_size") rfl)
  have n_sorted := He.free_ok X0 G0 (cc.fact 13 (f := .free "sorted") rfl)
  have na_Yard_kept_ties := He.noat_ok (cc.fact 19 (f := .noat "Yard" "kept_ties") rfl)
  have na_Yard_kept_wired := He.noat_ok (cc.fact 20 (f := .noat "Yard" "kept_wired") rfl)
  have g_near_of := He.glo_ok X0 G0 (cc.fact 21 (f := .glo "near_of") rfl)
  have na_Yard_kept_near := He.noat_ok (cc.fact 22 (f := .noat "Yard" "kept_near") rfl)
  obtain ⟨fd_is_integer, F_is_integer, b_is_integer, k_f_is_integer⟩ := ok_is_integer (P := P) (w := w) (base := base) X0 G0 cc
  obtain ⟨fd_are_posts, F_are_posts, b_are_posts, k_f_are_posts⟩ := ok_are_posts (P := P) (w := w) (base := base) X0 G0 cc
  obtain ⟨fd_check_tree, F_check_tree, b_check_tree, k_f_check_tree⟩ := ok_check_tree (P := P) (w := w) (base := base) X0 G0 cc
  obtain ⟨fd_near_of, F_near_of, b_near_of, k_f_near_of⟩ := ok_near_of (P := P) (w := w) (base := base) X0 G0 cc
  have hu := hr.units
  obtain ⟨E0, G1, H1, B1, io1, vs1⟩ := c
  cases hE
  cases hio
  unfold m_Yard___init__
  exact (zSeq (zIf (yOr (yNot (yVal (zFr (zCall (bs := []) (F_is_integer.mono (by decide)) hr hgd (by rfl) g_is_integer k_f_is_integer b_is_integer (passes_call (takes_of rfl rfl rfl rfl) (fun _ _ _ _ h => h)) (zAd (zVar (i := 1)) aNil))))) (yOr1 (yNot (yCh22 zInt (zVar (i := 1)) (zGi n_MOST_SIZE))))).pt (zOne zBadS) zDone)
  (zSeq (zIf (yOr (yNot (yVal (zIsi (T := .lst) (by rfl) (by rfl) n_isinstance (by rfl) n_list PyProof.Rows.boot_list (zVar (i := 2))))) (yOr1 (yGt (zB call_len (ans_len (by rfl)) PySem.boot_len (by rfl) n_len (zCons (zVar (i := 2)) zNil)) (zSub (zGi n_MOST_SIZE) zInt)))).pt (zOne zBadS) zDone)
  (zSeq (zIf (yNot (yVal (zFr (zCall (bs := []) (F_are_posts.mono (by decide)) hr hgd (by rfl) g_are_posts k_f_are_posts b_are_posts (passes_call (takes_of rfl rfl rfl rfl) (fun _ _ _ _ h => h)) (zAd (zVar (i := 3)) (zAd (zVar (i := 1)) aNil)))))) (zOne zBadS) zDone)
  (zSeq (zDropO (zCall (bs := []) (F_check_tree.mono (by decide)) hr hgd (by rfl) g_check_tree k_f_check_tree b_check_tree (passes_call (takes_of rfl rfl rfl rfl) (fun _ _ _ _ h => h)) (zAd (zVar (i := 1)) (zAd (zVar (i := 2)) aNil))))
  (zSeq (zSetF (cn := "Yard") (by rfl) k_Yard na_Yard_kept_size (zPv (i := 0)) (zSh (zVar (i := 1))))
  (zSeq (zSetF (cn := "Yard") (by rfl) k_Yard na_Yard_kept_ties (zPv (i := 0)) (zBN (Z.CallR.or (Z.CallR.or cr_sortedI cr_sortedPO) cr_sortedTI) (ans_sort (by rfl)) PyProof.Rows.boot_sorted (by rfl) n_sorted (zCons (zVar (i := 2)) zNil)))
  (zSeq (zSetF (cn := "Yard") (by rfl) k_Yard na_Yard_kept_wired (zPv (i := 0)) (zBN (Z.CallR.or (Z.CallR.or cr_sortedI cr_sortedPO) cr_sortedTI) (ans_sort (by rfl)) PyProof.Rows.boot_sorted (by rfl) n_sorted (zCons (zVar (i := 3)) zNil)))
  (zOne (zSetF (cn := "Yard") (by rfl) k_Yard na_Yard_kept_near (zPv (i := 0)) (zCall (bs := []) (F_near_of.mono (by decide)) hr hgd (by rfl) g_near_of k_f_near_of b_near_of (passes_call (takes_of rfl rfl rfl rfl) (fun _ _ _ _ h => h)) (zAd (zVar (i := 1)) (zAd (zVar (i := 2)) aNil))))))))))))
theorem ok_Yard___init__ (X0 : K.In h) (G0 : h.Ns mainGlobals mg) (cc : He.SaysD fa fn K) : ∃ fd, FnG P w K mg base (L2.CX P w) 5 (He.fAd K d_Yard___init__.at_) fd ["self", "size", "ties", "wired"] (spM (ev K) 4 [0] f_Yard___init__) ∧ KBn K fd ["self", "size", "ties", "wired"] 3 ["wired"] (· ++ ·) (· ++ ·) ∧ PySem.W.keepIn K (.ref (He.fAd K d_Yard___init__.at_)) = true := by
  obtain ⟨fd, F⟩ := cc.def_ 6 (d := d_Yard___init__) rfl
  exact ⟨fd, bd_Yard___init__ X0 G0 cc F, (kbnA F fun _ _ _ _ _ _ us ws h1 h2 => match us, ws, h1, h2 with | [_, _, _], [_], _, _ => rfl), F.kp⟩
/-! Yard.rewired -/
def m_Yard_rewired : MS := (sSeq (sIf (mNot (mTst (mFr (mCall 2 [] f_are_posts (mCons (aD (mVar 1)) (mCons (aD (m1x (dAtC "Yard" "kept_size") (mVar 0))) (mC []))))))) sBad sNext)
  (sRet (mMake "Yard" 4 [0] f_Yard___init__ 2 1 (· ++ ·) (mCons (aD (m1x (dAtC "Yard" "kept_size") (mVar 0))) (mCons (aD (m1x (dAtC "Yard" "kept_ties") (mVar 0))) (mC []))) (mCons (aD (mVar 1)) (mC [])))))
def f_Yard_rewired : Fn := mkFn 2 m_Yard_rewired
theorem sc_Yard_rewired : FnScope ["self", "wired"] ["self", "wired"] (defScope s_Yard_rewired) := ⟨rfl, rfl, rfl, by decide +kernel, rfl, by decide +kernel, by decide +kernel⟩
theorem bd_Yard_rewired (X0 : K.In h) (G0 : h.Ns mainGlobals mg) (cc : He.SaysD fa fn K) {fd : FuncData} (F : FunD K d_Yard_rewired.name d_Yard_rewired.qual d_Yard_rewired.params d_Yard_rewired.body d_Yard_rewired.scope (d_Yard_rewired.dvs K) (d_Yard_rewired.kws K) (He.fAd K d_Yard_rewired.at_) fd) : FnG P w K mg base (L2.CX P w) 7 (He.fAd K d_Yard_rewired.at_) fd ["self", "wired"] (spM (ev K) 2 [] f_Yard_rewired) := by
  have sc := sc_Yard_rewired
  refine okG (k := 6) F sc rfl ?_
  intro cdv A outer s H W c hr hgd hE hio
  have k_Yard := He.cls_ok (cc.fact 17 (f := .cls "Yard") rfl)
  have na_Yard_kept_size := He.noat_ok (cc.fact 18 (f := .noat "Yard" "kept_size") rfl)
  have g_are_posts := He.glo_ok X0 G0 (cc.fact 15 (f := .glo "are_posts") rfl)
  have na_Yard_kept_ties := He.noat_ok (cc.fact 19 (f := .noat "Yard" "kept_ties") rfl)
  have mk_Yard := He.mkr_ok (cc.fact 23 (f := .mkr "Yard") rfl)
  have g_Yard := He.glo_ok X0 G0 (cc.fact 24 (f := .glo "Yard") rfl)
  obtain ⟨fd_are_posts, F_are_posts, b_are_posts, k_f_are_posts⟩ := ok_are_posts (P := P) (w := w) (base := base) X0 G0 cc
  obtain ⟨fd_Yard___init__, F_Yard___init__, b_Yard___init__, k_f_Yard___init__⟩ := ok_Yard___init__ (P := P) (w := w) (base := base) X0 G0 cc
  have hu := hr.units
  obtain ⟨E0, G1, H1, B1, io1, vs1⟩ := c
  cases hE
  cases hio
  unfold m_Yard_rewired
  exact (zSeq (zIf (yNot (yVal (zFr (zCall (bs := []) (F_are_posts.mono (by decide)) hr hgd (by rfl) g_are_posts k_f_are_posts b_are_posts (passes_call (takes_of rfl rfl rfl rfl) (fun _ _ _ _ h => h)) (zAd (zVar (i := 1)) (zAd (zAtt (by rfl) (zVar (i := 0)) k_Yard na_Yard_kept_size) aNil)))))) (zOne zBadS) zDone)
  (zOne (zRet (zMakeA (nn := 2) (ks := ["wired"]) (bs := []) (cn := "Yard") (by rfl) (by exact (show ∀ i ∈ ([] : List Nat), i < 2 by decide)) mk_Yard (F_Yard___init__.mono (by decide)) hr hgd (by rfl) g_Yard b_Yard___init__ (passes_call (takes_of rfl rfl rfl rfl) (fun _ _ _ _ h => h)) (zAd (zAtt (by rfl) (zVar (i := 0)) k_Yard na_Yard_kept_size) (zAd (zAtt (by rfl) (zVar (i := 0)) k_Yard na_Yard_kept_ties) aNil)) (kAd (zVar (i := 1)) kNil)))))
theorem ok_Yard_rewired (X0 : K.In h) (G0 : h.Ns mainGlobals mg) (cc : He.SaysD fa fn K) : ∃ fd, FnG P w K mg base (L2.CX P w) 7 (He.fAd K d_Yard_rewired.at_) fd ["self", "wired"] (spM (ev K) 2 [] f_Yard_rewired) ∧ Binds K fd ["self", "wired"] [] ∧ PySem.W.keepIn K (.ref (He.fAd K d_Yard_rewired.at_)) = true := by
  obtain ⟨fd, F⟩ := cc.def_ 7 (d := d_Yard_rewired) rfl
  exact ⟨fd, bd_Yard_rewired X0 G0 cc F, (F.bindsN fun _ _ _ _ _ _ us hl => match us, hl with | [_, _], _ => rfl), F.kp⟩
/-! _law_alike -/
def m__law_alike : MS := (sRet (mSh (mBl (mAnd (mTst (m2x dEq (mVar 0) (mVar 1))) (mTst (m2x dEq (m1x fRepr (mCons (mVar 0) (mC []))) (m1x fRepr (mCons (mVar 1) (mC [])))))))))
def f__law_alike : Fn := mkFn 2 m__law_alike
theorem sc__law_alike : FnScope ["_law_found", "_law_due"] ["_law_found", "_law_due"] (defScope s__law_alike) := ⟨rfl, rfl, rfl, by decide +kernel, rfl, by decide +kernel, by decide +kernel⟩
theorem bd__law_alike (X0 : K.In h) (G0 : h.Ns mainGlobals mg) (cc : He.SaysD fa fn K) {fd : FuncData} (F : FunD K d__law_alike.name d__law_alike.qual d__law_alike.params d__law_alike.body d__law_alike.scope (d__law_alike.dvs K) (d__law_alike.kws K) (He.fAd K d__law_alike.at_) fd) : FnG P w K mg base (L2.CX P w) 1 (He.fAd K d__law_alike.at_) fd ["_law_found", "_law_due"] (spM (ev K) 2 [] f__law_alike) := by
  have sc := sc__law_alike
  refine okG (k := 0) F sc rfl ?_
  intro cdv A outer s H W c hr hgd hE hio
  have n_repr := He.free_ok X0 G0 (cc.fact 25 (f := .free "repr") rfl)
  have hu := hr.units
  obtain ⟨E0, G1, H1, B1, io1, vs1⟩ := c
  cases hE
  cases hio
  unfold m__law_alike
  exact (zOne (zRet (zSh (zAndV (zEq (by rfl) hu (zVar (i := 0)) (zVar (i := 1))) (zAnd1 (zEq (by rfl) hu (zB (cr_repr hu hgd) (ans_repr (by rfl)) PyProof.Rows.boot_repr (by rfl) n_repr (zCons (zVar (i := 0)) zNil)) (zB (cr_repr hu hgd) (ans_repr (by rfl)) PyProof.Rows.boot_repr (by rfl) n_repr (zCons (zVar (i := 1)) zNil))))))))
theorem ok__law_alike (X0 : K.In h) (G0 : h.Ns mainGlobals mg) (cc : He.SaysD fa fn K) : ∃ fd, FnG P w K mg base (L2.CX P w) 1 (He.fAd K d__law_alike.at_) fd ["_law_found", "_law_due"] (spM (ev K) 2 [] f__law_alike) ∧ Binds K fd ["_law_found", "_law_due"] [] ∧ PySem.W.keepIn K (.ref (He.fAd K d__law_alike.at_)) = true := by
  obtain ⟨fd, F⟩ := cc.def_ 8 (d := d__law_alike) rfl
  exact ⟨fd, bd__law_alike X0 G0 cc F, (F.bindsN fun _ _ _ _ _ _ us hl => match us, hl with | [_, _], _ => rfl), F.kp⟩
/-! _law_bag -/
def m__law_bag : MS := (sRet (m1x dLst (mCons (mC (.int 0)) (mCons (mC (.int 1234567891)) (mCons (mC (.int 0)) (mCons (mFr (mComp (m1x itL (mFr (mSl true (mVar 0) (mC none) (mPart (mC (.int 63)))))) (gNm 1) mYes (m1x fAbs (mCons (mVar 1) (mC []))) [1])) (mC [])))))))
def f__law_bag : Fn := mkFn 2 m__law_bag
theorem sc__law_bag : FnScope ["_law_script", "_law_cell"] ["_law_script"] (defScope s__law_bag) := ⟨rfl, rfl, rfl, by decide +kernel, rfl, by decide +kernel, by decide +kernel⟩
theorem bd__law_bag (X0 : K.In h) (G0 : h.Ns mainGlobals mg) (cc : He.SaysD fa fn K) {fd : FuncData} (F : FunD K d__law_bag.name d__law_bag.qual d__law_bag.params d__law_bag.body d__law_bag.scope (d__law_bag.dvs K) (d__law_bag.kws K) (He.fAd K d__law_bag.at_) fd) : FnG P w K mg base (L2.CX P w) 1 (He.fAd K d__law_bag.at_) fd ["_law_script"] (spM (ev K) 1 [] f__law_bag) := by
  have sc := sc__law_bag
  refine okG (k := 0) F sc rfl ?_
  intro cdv A outer s H W c hr hgd hE hio
  have n_abs := He.free_ok X0 G0 (cc.fact 26 (f := .free "abs") rfl)
  have hu := hr.units
  obtain ⟨E0, G1, H1, B1, io1, vs1⟩ := c
  cases hE
  cases hio
  unfold m__law_bag
  exact (zOne (zRet (zLst (zCons zInt (zCons zInt (zCons zInt (zCons (zFr (zComp (own := [("_law_cell", 1)]) (vs := [1]) (by rfl) sc.nd (zIl (by rfl) (zFr (zSl (zVar (i := 0)) zP0 (zP1 zInt) (by rfl) (by rfl)))) (blkOk_by (N := ["_law_script", "_law_cell"]) (sc := defScope s__law_bag) (by decide +kernel)) (by rfl) (by exact (show ∀ v ∈ ([1] : List Nat), v < 2 by decide)) (by exact (show ∀ v ∈ ([1] : List Nat), v ∉ ([] : List Nat) by decide)) (by decide) (fun _ _ _ _ _ => (zNm (i := 1) sc.nd (by rfl) (by first | exact Or.inl rfl | exact Or.inr rfl) (by exact (show (1 : Nat) ∉ ([] : List Nat) by decide)))) (fun _ _ _ _ _ => zNoIf) (fun _ _ _ _ _ => (zB call_abs ans_abs PyProof.Rows.boot_abs (by rfl) n_abs (zCons (zVar (i := 1)) zNil))))) zNil)))))))
theorem ok__law_bag (X0 : K.In h) (G0 : h.Ns mainGlobals mg) (cc : He.SaysD fa fn K) : ∃ fd, FnG P w K mg base (L2.CX P w) 1 (He.fAd K d__law_bag.at_) fd ["_law_script"] (spM (ev K) 1 [] f__law_bag) ∧ Binds K fd ["_law_script"] [] ∧ PySem.W.keepIn K (.ref (He.fAd K d__law_bag.at_)) = true := by
  obtain ⟨fd, F⟩ := cc.def_ 9 (d := d__law_bag) rfl
  exact ⟨fd, bd__law_bag X0 G0 cc F, (F.bindsN fun _ _ _ _ _ _ us hl => match us, hl with | [_], _ => rfl), F.kp⟩
/-! _law_near -/
def m__law_near : MS := (sSeq (sOwn (mCompO (m1x itR1 (mCons (mVar 0) (mC []))) (gNm 5) mYes (m1x dLst (mC [])) [5]) 2)
  (sSeq (sFor (m1x itL (mFr (m1x (mNew true gSort) (mCons (mVar 1) (mC []))))) (gTp 2 (gsCons (gNm 3) (gsCons (gNm 4) gsNil))) (sSeq (sDrop (mMut fApp 2 (pIx 2 (pVar 2) (mVar 3)) (mCons (mSh (mVar 4)) (mC []))))
  (sDrop (mMut fApp 2 (pIx 2 (pVar 2) (mVar 4)) (mCons (mSh (mVar 3)) (mC []))))))
  (sRet (mComp (m1x itL (mUse 2)) (gNm 6) mYes (mFr (m1x (mNew true gSort) (mCons (mVar 6) (mC [])))) [6]))))
def f__law_near : Fn := mkFn 7 m__law_near
theorem sc__law_near : FnScope ["_law_size", "_law_ties_here", "_law_found", "_law_one", "_law_other", "_law_post", "_law_row"] ["_law_size", "_law_ties_here"] (defScope s__law_near) := ⟨rfl, rfl, rfl, by decide +kernel, rfl, by decide +kernel, by decide +kernel⟩
theorem bd__law_near (X0 : K.In h) (G0 : h.Ns mainGlobals mg) (cc : He.SaysD fa fn K) {fd : FuncData} (F : FunD K d__law_near.name d__law_near.qual d__law_near.params d__law_near.body d__law_near.scope (d__law_near.dvs K) (d__law_near.kws K) (He.fAd K d__law_near.at_) fd) : FnG P w K mg base (L2.CX P w) 1 (He.fAd K d__law_near.at_) fd ["_law_size", "_law_ties_here"] (spM (ev K) 2 [] f__law_near) := by
  have sc := sc__law_near
  refine okG (k := 0) F sc rfl ?_
  intro cdv A outer s H W c hr hgd hE hio
  have n_range := He.free_ok X0 G0 (cc.fact 10 (f := .free "range") rfl)
  have n_sorted := He.free_ok X0 G0 (cc.fact 13 (f := .free "sorted") rfl)
  have hu := hr.units
  obtain ⟨E0, G1, H1, B1, io1, vs1⟩ := c
  cases hE
  cases hio
  unfold m__law_near
  exact (zSeq (zOwnCO (i := 2) (own := [("_law_post", 5)]) (vs := [5]) (by rfl) sc.nd (by rfl) (by rfl) (by exact (show (2 : Nat) ∉ ([] : List Nat) by decide)) (sw_true (by rfl) (by rfl) (by rfl) (by decide +kernel)) (zIr1 (by rfl) n_range (zCons (zVar (i := 0)) zNil)) (blkOk_by (N := ["_law_size", "_law_ties_here", "_law_found", "_law_one", "_law_other", "_law_post", "_law_row"]) (sc := defScope s__law_near) (by decide +kernel)) (by rfl) (by exact (show ∀ v ∈ ([5] : List Nat), v < 7 by decide)) (by exact (show ∀ v ∈ ([5] : List Nat), v ∉ ([] : List Nat) by decide)) (by decide) (fun _ _ _ _ _ => (zNm (i := 5) sc.nd (by rfl) (by first | exact Or.inl rfl | exact Or.inr rfl) (by exact (show (5 : Nat) ∉ ([] : List Nat) by decide)))) (fun _ _ _ _ _ => zNoIf) (fun _ _ _ _ _ => (zLst zNil)))
  (zSeq (zFor (passes_of (by rfl)) (by rfl) (zIl (by rfl) (zFr (zBN (Z.CallR.or (Z.CallR.or cr_sortedI cr_sortedPO) cr_sortedTI) (ans_sort (by rfl)) PyProof.Rows.boot_sorted (by rfl) n_sorted (zCons (zVar (i := 1)) zNil)))) (zTp (by rfl) (by rfl) (zTs1 (zNm (i := 3) sc.nd (by rfl) (Or.inl rfl) (by exact (show (3 : Nat) ∉ ([] : List Nat) by decide))) (zTs1 (zNm (i := 4) sc.nd (by rfl) (Or.inl rfl) (by exact (show (4 : Nat) ∉ ([] : List Nat) by decide))) zTs0))) (fun _ => (zSeq (zDrop (zMut PySem.F.slot_list_append PySem.F.type_list_append mt_append ans_app (zPi (by rfl) (zPv (i := 2)) (zVar (i := 3))) (zAO1 (zSh (zVar (i := 4))) zAO0)))
  (zOne (zDrop (zMut PySem.F.slot_list_append PySem.F.type_list_append mt_append ans_app (zPi (by rfl) (zPv (i := 2)) (zVar (i := 4))) (zAO1 (zSh (zVar (i := 3))) zAO0)))))))
  (zOne (zRet (zComp (own := [("_law_row", 6)]) (vs := [6]) (by rfl) sc.nd (zIl (by rfl) (zUse (i := 2) (hio := (by exact (show (2 : Nat) ∉ ([] : List Nat) by decide))))) (blkOk_by (N := ["_law_size", "_law_ties_here", "_law_found", "_law_one", "_law_other", "_law_post", "_law_row"]) (sc := defScope s__law_near) (by decide +kernel)) (by rfl) (by exact (show ∀ v ∈ ([6] : List Nat), v < 7 by decide)) (by exact (show ∀ v ∈ ([6] : List Nat), v ∉ ([] : List Nat) by decide)) (by decide) (fun _ _ _ _ _ => (zNm (i := 6) sc.nd (by rfl) (by first | exact Or.inl rfl | exact Or.inr rfl) (by exact (show (6 : Nat) ∉ ([] : List Nat) by decide)))) (fun _ _ _ _ _ => zNoIf) (fun _ _ _ _ _ => (zFr (zBN (Z.CallR.or (Z.CallR.or cr_sortedI cr_sortedPO) cr_sortedTI) (ans_sort (by rfl)) PyProof.Rows.boot_sorted (by rfl) n_sorted (zCons (zVar (i := 6)) zNil)))))))))
theorem ok__law_near (X0 : K.In h) (G0 : h.Ns mainGlobals mg) (cc : He.SaysD fa fn K) : ∃ fd, FnG P w K mg base (L2.CX P w) 1 (He.fAd K d__law_near.at_) fd ["_law_size", "_law_ties_here"] (spM (ev K) 2 [] f__law_near) ∧ Binds K fd ["_law_size", "_law_ties_here"] [] ∧ PySem.W.keepIn K (.ref (He.fAd K d__law_near.at_)) = true := by
  obtain ⟨fd, F⟩ := cc.def_ 10 (d := d__law_near) rfl
  exact ⟨fd, bd__law_near X0 G0 cc F, (F.bindsN fun _ _ _ _ _ _ us hl => match us, hl with | [_, _], _ => rfl), F.kp⟩
/-! _law_pieces -/
def m__law_pieces : MS := (sSeq (sSto (m1x dLst (mC [])) 2)
  (sSeq (sAsg (mFr (m1x (mNew true gList) (mCons (mVar 1) (mC [])))) (gNm 3))
  (sSeq (sWhile 100000 (mTst (m2x dNe (mVar 3) (mFr (m1x dLst (mC []))))) (sSeq (sAsg (mFr (m1x dLst (mC []))) (gNm 4))
  (sSeq (sAsg (mFr (m1x dLst (mCons (m2x dIx (mVar 3) (mC (.int 0))) (mC [])))) (gNm 5))
  (sSeq (sWhile 100000 (mTst (m2x dNe (mVar 5) (mFr (m1x dLst (mC []))))) (sSeq (sAsg (mFr (m2N true dCat (mVar 4) (mVar 5))) (gNm 4))
  (sAsg (mFr (mComp (m1x itL (mVar 3)) (gNm 6) (mAnd (mTst (m2x dNi (mVar 6) (mVar 4))) (mTst (m2x dNe (mFr (mComp (m1x itL (m2x dIx (mVar 0) (mVar 6))) (gNm 7) (mTst (m2x dIn (mVar 7) (mVar 4))) (mVar 7) [7])) (mFr (m1x dLst (mC [])))))) (mVar 6) [6])) (gNm 5))))
  (sSeq (sDrop (mMut fApp 2 (pVar 2) (mCons (m1x (mNew true gSort) (mCons (mVar 4) (mC []))) (mC []))))
  (sAsg (mFr (mComp (m1x itL (mVar 3)) (gNm 6) (mTst (m2x dNi (mVar 6) (mVar 4))) (mVar 6) [6])) (gNm 3)))))))
  (sRet (mMov 2)))))
def f__law_pieces : Fn := mkFn 8 m__law_pieces
theorem sc__law_pieces : FnScope ["_law_near_here", "_law_up", "_law_found", "_law_left", "_law_piece", "_law_more", "_law_post", "_law_one"] ["_law_near_here", "_law_up"] (defScope s__law_pieces) := ⟨rfl, rfl, rfl, by decide +kernel, rfl, by decide +kernel, by decide +kernel⟩
theorem bd__law_pieces (X0 : K.In h) (G0 : h.Ns mainGlobals mg) (cc : He.SaysD fa fn K) {fd : FuncData} (F : FunD K d__law_pieces.name d__law_pieces.qual d__law_pieces.params d__law_pieces.body d__law_pieces.scope (d__law_pieces.dvs K) (d__law_pieces.kws K) (He.fAd K d__law_pieces.at_) fd) : FnG P w K mg base (L2.CX P w) 1 (He.fAd K d__law_pieces.at_) fd ["_law_near_here", "_law_up"] (spM (ev K) 2 [] f__law_pieces) := by
  have sc := sc__law_pieces
  refine okG (k := 0) F sc rfl ?_
  intro cdv A outer s H W c hr hgd hE hio
  have n_list := He.free_ok X0 G0 (cc.fact 4 (f := .free "list") rfl)
  have n_sorted := He.free_ok X0 G0 (cc.fact 13 (f := .free "sorted") rfl)
  have hu := hr.units
  obtain ⟨E0, G1, H1, B1, io1, vs1⟩ := c
  cases hE
  cases hio
  unfold m__law_pieces
  exact (zSeq (zSto (i := 2) sc.nd (by rfl) (Or.inl rfl) (by exact (show (2 : Nat) ∉ ([] : List Nat) by decide)) (zLst zNil))
  (zSeq (zAsg (zFr (zTN call_list_of (ans_list (by rfl)) PyProof.Rows.boot_list (by rfl) n_list (zCons (zVar (i := 1)) zNil))) (zNm (i := 3) sc.nd (by rfl) (Or.inl rfl) (by exact (show (3 : Nat) ∉ ([] : List Nat) by decide))))
  (zSeq (zWhile (passes_of (by rfl)) (yNe (by rfl) hu (zVar (i := 3)) (zFr (zLst zNil))) (zSeq (zAsg (zFr (zLst zNil)) (zNm (i := 4) sc.nd (by rfl) (Or.inr rfl) (by exact (show (4 : Nat) ∉ ([] : List Nat) by decide))))
  (zSeq (zAsg (zFr (zLst (zCons (zIx (by rfl) (zVar (i := 3)) zInt) zNil))) (zNm (i := 5) sc.nd (by rfl) (Or.inl rfl) (by exact (show (5 : Nat) ∉ ([] : List Nat) by decide))))
  (zSeq (zWhile (passes_of (by rfl)) (yNe (by rfl) hu (zVar (i := 5)) (zFr (zLst zNil))) (zSeq (zAsg (zFr (zCat (zVar (i := 4)) (zVar (i := 5)))) (zNm (i := 4) sc.nd (by rfl) (Or.inr rfl) (by exact (show (4 : Nat) ∉ ([] : List Nat) by decide))))
  (zOne (zAsgC (i := 5) (own := [("_law_post", 6)]) (vs := [6]) (by rfl) sc.nd (by rfl) (by rfl) (by exact (show (5 : Nat) ∉ ([] : List Nat) by decide)) (sw_true (by rfl) (by rfl) (by rfl) (by decide +kernel)) (zIl (by rfl) (zVar (i := 3))) (blkOk_by (N := ["_law_near_here", "_law_up", "_law_found", "_law_left", "_law_piece", "_law_more", "_law_post", "_law_one"]) (sc := defScope s__law_pieces) (by decide +kernel)) (by rfl) (by exact (show ∀ v ∈ ([6] : List Nat), v < 8 by decide)) (by exact (show ∀ v ∈ ([6] : List Nat), v ∉ ([] : List Nat) by decide)) (by decide) (fun _ _ _ _ _ => (zNm (i := 6) sc.nd (by rfl) (by first | exact Or.inl rfl | exact Or.inr rfl) (by exact (show (6 : Nat) ∉ ([] : List Nat) by decide)))) (fun _ _ _ _ _ => (zIf1 (yAnd (yNi (by rfl) (zVar (i := 6)) (zVar (i := 4))) (yAnd1 (yNe (by rfl) hu (zFr (zComp (own := [("_law_one", 7)]) (vs := [7]) (by rfl) sc.nd (zIl (by rfl) (zIx (by rfl) (zVar (i := 0)) (zVar (i := 6)))) (blkOk_by (by rfl)) (by rfl) (by exact (show ∀ v ∈ ([7] : List Nat), v < 8 by decide)) (by exact (show ∀ v ∈ ([7] : List Nat), v ∉ ([] : List Nat) by decide)) (by decide) (fun _ _ _ _ _ => (zNm (i := 7) sc.nd (by rfl) (by first | exact Or.inl rfl | exact Or.inr rfl) (by exact (show (7 : Nat) ∉ ([] : List Nat) by decide)))) (fun _ _ _ _ _ => (zIf1 (yIn (by rfl) (zVar (i := 7)) (zVar (i := 4))))) (fun _ _ _ _ _ => (zVar (i := 7))))) (zFr (zLst zNil))))).pt)) (fun _ _ _ _ _ => (zVar (i := 6)))))))
  (zSeq (zDrop (zMut PySem.F.slot_list_append PySem.F.type_list_append mt_append ans_app (zPv (i := 2)) (zAO1 (zBN (Z.CallR.or (Z.CallR.or cr_sortedI cr_sortedPO) cr_sortedTI) (ans_sort (by rfl)) PyProof.Rows.boot_sorted (by rfl) n_sorted (zCons (zVar (i := 4)) zNil)) zAO0)))
  (zOne (zAsgC (i := 3) (own := [("_law_post", 6)]) (vs := [6]) (by rfl) sc.nd (by rfl) (by rfl) (by exact (show (3 : Nat) ∉ ([] : List Nat) by decide)) (sw_true (by rfl) (by rfl) (by rfl) (by decide +kernel)) (zIl (by rfl) (zVar (i := 3))) (blkOk_by (N := ["_law_near_here", "_law_up", "_law_found", "_law_left", "_law_piece", "_law_more", "_law_post", "_law_one"]) (sc := defScope s__law_pieces) (by decide +kernel)) (by rfl) (by exact (show ∀ v ∈ ([6] : List Nat), v < 8 by decide)) (by exact (show ∀ v ∈ ([6] : List Nat), v ∉ ([] : List Nat) by decide)) (by decide) (fun _ _ _ _ _ => (zNm (i := 6) sc.nd (by rfl) (by first | exact Or.inl rfl | exact Or.inr rfl) (by exact (show (6 : Nat) ∉ ([] : List Nat) by decide)))) (fun _ _ _ _ _ => (zIf1 (yNi (by rfl) (zVar (i := 6)) (zVar (i := 4))))) (fun _ _ _ _ _ => (zVar (i := 6))))))))))
  (zOne (zRet (zMov (i := 2) (hio := (by exact (show (2 : Nat) ∉ ([] : List Nat) by decide)))))))))
theorem ok__law_pieces (X0 : K.In h) (G0 : h.Ns mainGlobals mg) (cc : He.SaysD fa fn K) : ∃ fd, FnG P w K mg base (L2.CX P w) 1 (He.fAd K d__law_pieces.at_) fd ["_law_near_here", "_law_up"] (spM (ev K) 2 [] f__law_pieces) ∧ Binds K fd ["_law_near_here", "_law_up"] [] ∧ PySem.W.keepIn K (.ref (He.fAd K d__law_pieces.at_)) = true := by
  obtain ⟨fd, F⟩ := cc.def_ 11 (d := d__law_pieces) rfl
  exact ⟨fd, bd__law_pieces X0 G0 cc F, (F.bindsN fun _ _ _ _ _ _ us hl => match us, hl with | [_, _], _ => rfl), F.kp⟩
/-! _law_take -/
def m__law_take : MS := (sSeq (sIf (mTst (m2x dEq (mRd 0 (pIx 0 (pVar 0) (mC (.int 0)))) (mC (.int 0)))) (sSeq (sAsg (mC (.int 0)) (gNm 4))
  (sSeq (sIf (mTst (m2x dLt (mRd 0 (pIx 0 (pVar 0) (mC (.int 2)))) (m1x fLen (mCons (mRd 0 (pIx 0 (pVar 0) (mC (.int 3)))) (mC []))))) (sAsg (m2x dIx (mRd 0 (pIx 0 (pVar 0) (mC (.int 3)))) (mRd 0 (pIx 0 (pVar 0) (mC (.int 2))))) (gNm 4)) sNext)
  (sSeq (sAugI 0 dAdd (pVar 0) (mC (.int 2)) (mC (.int 1)))
  (sSeq (sIf (mTst (m2x dGe (mVar 4) (mC (.int 1000000000000000000)))) (sSetI 0 (mSh (mVar 4)) (pVar 0) (mC (.int 0))) sNext)
  (sSetI 0 (mSh (m2x dMod (m2x dAdd (m2x dAdd (m2x dMul (mRd 0 (pIx 0 (pVar 0) (mC (.int 1)))) (mC (.int 48271))) (m2x dMod (mVar 4) (mC (.int 2147483647)))) (m2x dMul (mC (.int 7919)) (mRd 0 (pIx 0 (pVar 0) (mC (.int 2)))))) (mC (.int 2147483647)))) (pVar 0) (mC (.int 1))))))) sNext)
  (sSeq (sIf (mTst (m2x dGt (mRd 0 (pIx 0 (pVar 0) (mC (.int 0)))) (mC (.int 0)))) (sSeq (sAsg (m2x dMod (mRd 0 (pIx 0 (pVar 0) (mC (.int 0)))) (mVar 1)) (gNm 5))
  (sSeq (sSetI 0 (mSh (m2x dDiv (mRd 0 (pIx 0 (pVar 0) (mC (.int 0)))) (mVar 1))) (pVar 0) (mC (.int 0)))
  (sRet (mSh (mVar 5))))) sNext)
  (sSeq (sAsg (m2x dMod (m2x dMul (m2x dAdd (mRd 0 (pIx 0 (pVar 0) (mC (.int 1)))) (mC (.int 1))) (mC (.int 39373))) (mC (.int 1000000007))) (gNm 2))
  (sSeq (sAsg (m2x dMod (m2x dMul (m2x dMod (m2x dMul (mVar 2) (mVar 2)) (mC (.int 998244353))) (mC (.int 30011))) (mC (.int 998244353))) (gNm 3))
  (sSeq (sIf (mTst (m2x dGt (mVar 1) (mC (.int 1000000)))) (sRet (mSh (m2x dMod (m2x dAdd (m2x dMul (mVar 3) (mC (.int 1000000007))) (mVar 2)) (mVar 1)))) sNext)
  (sRet (mSh (m2x dMod (m2x dDiv (mVar 3) (mC (.int 7))) (mVar 1)))))))))
def f__law_take : Fn := mkFn 6 m__law_take
theorem sc__law_take : FnScope ["_law_bag_here", "_law_many", "_law_first", "_law_second", "_law_cell", "_law_value"] ["_law_bag_here", "_law_many"] (defScope s__law_take) := ⟨rfl, rfl, rfl, by decide +kernel, rfl, by decide +kernel, by decide +kernel⟩
theorem bd__law_take (X0 : K.In h) (G0 : h.Ns mainGlobals mg) (cc : He.SaysD fa fn K) {fd : FuncData} (F : FunD K d__law_take.name d__law_take.qual d__law_take.params d__law_take.body d__law_take.scope (d__law_take.dvs K) (d__law_take.kws K) (He.fAd K d__law_take.at_) fd) : FnG P w K mg base (L2.CX P w) 1 (He.fAd K d__law_take.at_) fd ["_law_bag_here", "_law_many"] (spM (ev K) 2 [0] f__law_take) := by
  have sc := sc__law_take
  refine okG (k := 0) F sc rfl ?_
  intro cdv A outer s H W c hr hgd hE hio
  have n_len := He.free_ok X0 G0 (cc.fact 8 (f := .free "len") rfl)
  have hu := hr.units
  obtain ⟨E0, G1, H1, B1, io1, vs1⟩ := c
  cases hE
  cases hio
  unfold m__law_take
  exact (zSeq (zIf (yEq (by rfl) hu (zRd (zPi (by rfl) (zPv (i := 0)) zInt)) zInt) (zSeq (zAsg zInt (zNm (i := 4) sc.nd (by rfl) (Or.inl rfl) (by exact (show (4 : Nat) ∉ ([0] : List Nat) by decide))))
  (zSeq (zIf (yLt (zRd (zPi (by rfl) (zPv (i := 0)) zInt)) (zB call_len (ans_len (by rfl)) PySem.boot_len (by rfl) n_len (zCons (zRd (zPi (by rfl) (zPv (i := 0)) zInt)) zNil))) (zOne (zAsg (zIx (by rfl) (zRd (zPi (by rfl) (zPv (i := 0)) zInt)) (zRd (zPi (by rfl) (zPv (i := 0)) zInt))) (zNm (i := 4) sc.nd (by rfl) (Or.inl rfl) (by exact (show (4 : Nat) ∉ ([0] : List Nat) by decide))))) zDone)
  (zSeq (zAugI (zPv (i := 0)) zInt zInt iop_add ans_add)
  (zSeq (zIf (yGe (zVar (i := 4)) zInt) (zOne (zSetI (zPv (i := 0)) zInt (zSh (zVar (i := 4))))) zDone)
  (zOne (zSetI (zPv (i := 0)) zInt (zSh (zMod (zAdd (zAdd (zMul (zRd (zPi (by rfl) (zPv (i := 0)) zInt)) zInt) (zMod (zVar (i := 4)) zInt)) (zMul zInt (zRd (zPi (by rfl) (zPv (i := 0)) zInt)))) zInt)))))))) zDone)
  (zSeq (zIf (yGt (zRd (zPi (by rfl) (zPv (i := 0)) zInt)) zInt) (zSeq (zAsg (zMod (zRd (zPi (by rfl) (zPv (i := 0)) zInt)) (zVar (i := 1))) (zNm (i := 5) sc.nd (by rfl) (Or.inl rfl) (by exact (show (5 : Nat) ∉ ([0] : List Nat) by decide))))
  (zSeq (zSetI (zPv (i := 0)) zInt (zSh (zDiv (zRd (zPi (by rfl) (zPv (i := 0)) zInt)) (zVar (i := 1)))))
  (zOne (zRet (zSh (zVar (i := 5))))))) zDone)
  (zSeq (zAsg (zMod (zMul (zAdd (zRd (zPi (by rfl) (zPv (i := 0)) zInt)) zInt) zInt) zInt) (zNm (i := 2) sc.nd (by rfl) (Or.inl rfl) (by exact (show (2 : Nat) ∉ ([0] : List Nat) by decide))))
  (zSeq (zAsg (zMod (zMul (zMod (zMul (zVar (i := 2)) (zVar (i := 2))) zInt) zInt) zInt) (zNm (i := 3) sc.nd (by rfl) (Or.inl rfl) (by exact (show (3 : Nat) ∉ ([0] : List Nat) by decide))))
  (zSeq (zIf (yGt (zVar (i := 1)) zInt) (zOne (zRet (zSh (zMod (zAdd (zMul (zVar (i := 3)) zInt) (zVar (i := 2))) (zVar (i := 1)))))) zDone)
  (zOne (zRet (zSh (zMod (zDiv (zVar (i := 3)) zInt) (zVar (i := 1)))))))))))
theorem ok__law_take (X0 : K.In h) (G0 : h.Ns mainGlobals mg) (cc : He.SaysD fa fn K) : ∃ fd, FnG P w K mg base (L2.CX P w) 1 (He.fAd K d__law_take.at_) fd ["_law_bag_here", "_law_many"] (spM (ev K) 2 [0] f__law_take) ∧ Binds K fd ["_law_bag_here", "_law_many"] [] ∧ PySem.W.keepIn K (.ref (He.fAd K d__law_take.at_)) = true := by
  obtain ⟨fd, F⟩ := cc.def_ 12 (d := d__law_take) rfl
  exact ⟨fd, bd__law_take X0 G0 cc F, (F.bindsN fun _ _ _ _ _ _ us hl => match us, hl with | [_, _], _ => rfl), F.kp⟩
/-! _law_some -/
def m__law_some : MS := (sSeq (sAsg (mFr (mCall 2 [0] f__law_take (mCons (aB 0) (mCons (aD (mC (.int 6))) (mC []))))) (gNm 2))
  (sSeq (sIf (mTst (m2x dEq (mVar 2) (mC (.int 2)))) (sRet (m1x dLst (mCons (mFr (mCall 2 [0] f__law_take (mCons (aB 0) (mCons (aD (mVar 1)) (mC []))))) (mC [])))) sNext)
  (sSeq (sAsg (m2x dIx (mFr (m1x dLst (mCons (mC (.int 0)) (mCons (mC (.int 4)) (mCons (mC (.int 0)) (mCons (mC (.int 1)) (mCons (mC (.int 2)) (mCons (mC (.int 3)) (mC []))))))))) (mVar 2)) (gNm 3))
  (sRet (mComp (m1x itR1 (mCons (mVar 1) (mC []))) (gNm 4) (mTst (m2x dLt (mFr (mCall 2 [0] f__law_take (mCons (aB 0) (mCons (aD (mC (.int 4))) (mC []))))) (mVar 3))) (mVar 4) [4])))))
def f__law_some : Fn := mkFn 5 m__law_some
theorem sc__law_some : FnScope ["_law_bag_here", "_law_size", "_law_way", "_law_part", "_law_post"] ["_law_bag_here", "_law_size"] (defScope s__law_some) := ⟨rfl, rfl, rfl, by decide +kernel, rfl, by decide +kernel, by decide +kernel⟩
theorem bd__law_some (X0 : K.In h) (G0 : h.Ns mainGlobals mg) (cc : He.SaysD fa fn K) {fd : FuncData} (F : FunD K d__law_some.name d__law_some.qual d__law_some.params d__law_some.body d__law_some.scope (d__law_some.dvs K) (d__law_some.kws K) (He.fAd K d__law_some.at_) fd) : FnG P w K mg base (L2.CX P w) 2 (He.fAd K d__law_some.at_) fd ["_law_bag_here", "_law_size"] (spM (ev K) 2 [0] f__law_some) := by
  have sc := sc__law_some
  refine okG (k := 1) F sc rfl ?_
  intro cdv A outer s H W c hr hgd hE hio
  have g__law_take := He.glo_ok X0 G0 (cc.fact 27 (f := .glo "_law_take") rfl)
  have n_range := He.free_ok X0 G0 (cc.fact 10 (f := .free "range") rfl)
  obtain ⟨fd__law_take, F__law_take, b__law_take, k_f__law_take⟩ := ok__law_take (P := P) (w := w) (base := base) X0 G0 cc
  have hu := hr.units
  obtain ⟨E0, G1, H1, B1, io1, vs1⟩ := c
  cases hE
  cases hio
  unfold m__law_some
  exact (zSeq (zAsg (zFr (zCall (bs := [0]) (F__law_take.mono (by decide)) hr hgd (by rfl) g__law_take k_f__law_take b__law_take (passes_call (takes_of rfl rfl rfl rfl) (fun _ _ _ _ h => h)) (zAb (i := 0) (by rfl) (zAd zInt aNil) (by decide)))) (zNm (i := 2) sc.nd (by rfl) (Or.inl rfl) (by exact (show (2 : Nat) ∉ ([0] : List Nat) by decide))))
  (zSeq (zIf (yEq (by rfl) hu (zVar (i := 2)) zInt) (zOne (zRet (zLst (zCons (zFr (zCall (bs := [0]) (F__law_take.mono (by decide)) hr hgd (by rfl) g__law_take k_f__law_take b__law_take (passes_call (takes_of rfl rfl rfl rfl) (fun _ _ _ _ h => h)) (zAb (i := 0) (by rfl) (zAd (zVar (i := 1)) aNil) (by decide)))) zNil)))) zDone)
  (zSeq (zAsg (zIx (by rfl) (zFr (zLst (zCons zInt (zCons zInt (zCons zInt (zCons zInt (zCons zInt (zCons zInt zNil)))))))) (zVar (i := 2))) (zNm (i := 3) sc.nd (by rfl) (Or.inr rfl) (by exact (show (3 : Nat) ∉ ([0] : List Nat) by decide))))
  (zOne (zRet (zComp (own := [("_law_post", 4)]) (vs := [4]) (by rfl) sc.nd (zIr1 (by rfl) n_range (zCons (zVar (i := 1)) zNil)) (blkOk_by (N := ["_law_bag_here", "_law_size", "_law_way", "_law_part", "_law_post"]) (sc := defScope s__law_some) (by decide +kernel)) (by rfl) (by exact (show ∀ v ∈ ([4] : List Nat), v < 5 by decide)) (by exact (show ∀ v ∈ ([4] : List Nat), v ∉ ([0] : List Nat) by decide)) (by decide) (fun _ _ _ _ _ => (zNm (i := 4) sc.nd (by rfl) (by first | exact Or.inl rfl | exact Or.inr rfl) (by exact (show (4 : Nat) ∉ ([0] : List Nat) by decide)))) (fun _ _ _ _ _ => (zIf1 (yLt (zFr (zCall (bs := [0]) (F__law_take.mono (by decide)) hr hgd (by rfl) g__law_take k_f__law_take b__law_take passL (zAb (i := 0) (by rfl) (zAd zInt aNil) (by decide)))) (zVar (i := 3))))) (fun _ _ _ _ _ => (zVar (i := 4)))))))))
theorem ok__law_some (X0 : K.In h) (G0 : h.Ns mainGlobals mg) (cc : He.SaysD fa fn K) : ∃ fd, FnG P w K mg base (L2.CX P w) 2 (He.fAd K d__law_some.at_) fd ["_law_bag_here", "_law_size"] (spM (ev K) 2 [0] f__law_some) ∧ Binds K fd ["_law_bag_here", "_law_size"] [] ∧ PySem.W.keepIn K (.ref (He.fAd K d__law_some.at_)) = true := by
  obtain ⟨fd, F⟩ := cc.def_ 13 (d := d__law_some) rfl
  exact ⟨fd, bd__law_some X0 G0 cc F, (F.bindsN fun _ _ _ _ _ _ us hl => match us, hl with | [_, _], _ => rfl), F.kp⟩
/-! _law_parents -/
def m__law_parents : MS := (sSeq (sAsg (mFr (mCall 2 [0] f__law_take (mCons (aB 0) (mCons (aD (mC (.int 6))) (mC []))))) (gNm 2))
  (sSeq (sAsg (m2x dAdd (mC (.int 1)) (mFr (mCall 2 [0] f__law_take (mCons (aB 0) (mCons (aD (mVar 1)) (mC [])))))) (gNm 3))
  (sSeq (sSto (m1x dLst (mC [])) 4)
  (sSeq (sFor (m1x itR2 (mCons (mC (.int 1)) (mCons (mVar 1) (mC [])))) (gNm 5) (sIf (mTst (m2x dEq (mVar 2) (mC (.int 1)))) (sDrop (mMut fApp 4 (pVar 4) (mCons (mSh (m2x dSub (mVar 5) (mC (.int 1)))) (mC [])))) (sIf (mTst (m2x dEq (mVar 2) (mC (.int 2)))) (sDrop (mMut fApp 4 (pVar 4) (mCons (mSh (mC (.int 0))) (mC [])))) (sIf (mTst (m2x dEq (mVar 2) (mC (.int 3)))) (sDrop (mMut fApp 4 (pVar 4) (mCons (mSh (m2x dIx (mFr (m1x dLst (mCons (m2x dIx (mFr (m1x dLst (mCons (mC (.int 0)) (mCons (m2x dSub (mVar 3) (mC (.int 1))) (mC []))))) (mFr (mCall 2 [0] f__law_take (mCons (aB 0) (mCons (aD (mC (.int 2))) (mC [])))))) (mCons (m2x dSub (mVar 5) (mC (.int 1))) (mC []))))) (m1x fInt (mCons (m2x dLt (mVar 5) (mVar 3)) (mC []))))) (mC [])))) (sIf (mAnd (mTst (m2x dEq (mVar 2) (mC (.int 4)))) (mTst (m2x dLt (mVar 5) (mC (.int 6))))) (sDrop (mMut fApp 4 (pVar 4) (mCons (mSh (m2x dIx (mFr (m1x dLst (mCons (mC (.int 0)) (mCons (mC (.int 0)) (mCons (mC (.int 2)) (mCons (mC (.int 0)) (mCons (mC (.int 4)) (mC [])))))))) (m2x dSub (mVar 5) (mC (.int 1))))) (mC [])))) (sIf (mTst (m2x dEq (mVar 2) (mC (.int 5)))) (sDrop (mMut fApp 4 (pVar 4) (mCons (mSh (m1x fMax2 (mCons (mC (.int 0)) (mCons (m2x dSub (m2x dSub (mVar 5) (mC (.int 1))) (mFr (mCall 2 [0] f__law_take (mCons (aB 0) (mCons (aD (mC (.int 2))) (mC [])))))) (mC []))))) (mC [])))) (sDrop (mMut fApp 4 (pVar 4) (mCons (mCall 2 [0] f__law_take (mCons (aB 0) (mCons (aD (mVar 5)) (mC [])))) (mC []))))))))))
  (sRet (mMov 4))))))
def f__law_parents : Fn := mkFn 6 m__law_parents
theorem sc__law_parents : FnScope ["_law_bag_here", "_law_size", "_law_way", "_law_core", "_law_found", "_law_k"] ["_law_bag_here", "_law_size"] (defScope s__law_parents) := ⟨rfl, rfl, rfl, by decide +kernel, rfl, by decide +kernel, by decide +kernel⟩
theorem bd__law_parents (X0 : K.In h) (G0 : h.Ns mainGlobals mg) (cc : He.SaysD fa fn K) {fd : FuncData} (F : FunD K d__law_parents.name d__law_parents.qual d__law_parents.params d__law_parents.body d__law_parents.scope (d__law_parents.dvs K) (d__law_parents.kws K) (He.fAd K d__law_parents.at_) fd) : FnG P w K mg base (L2.CX P w) 2 (He.fAd K d__law_parents.at_) fd ["_law_bag_here", "_law_size"] (spM (ev K) 2 [0] f__law_parents) := by
  have sc := sc__law_parents
  refine okG (k := 1) F sc rfl ?_
  intro cdv A outer s H W c hr hgd hE hio
  have g__law_take := He.glo_ok X0 G0 (cc.fact 27 (f := .glo "_law_take") rfl)
  have n_range := He.free_ok X0 G0 (cc.fact 10 (f := .free "range") rfl)
  have n_int := He.free_ok X0 G0 (cc.fact 1 (f := .free "int") rfl)
  have n_max := He.free_ok X0 G0 (cc.fact 28 (f := .free "max") rfl)
  obtain ⟨fd__law_take, F__law_take, b__law_take, k_f__law_take⟩ := ok__law_take (P := P) (w := w) (base := base) X0 G0 cc
  have hu := hr.units
  obtain ⟨E0, G1, H1, B1, io1, vs1⟩ := c
  cases hE
  cases hio
  unfold m__law_parents
  exact (zSeq (zAsg (zFr (zCall (bs := [0]) (F__law_take.mono (by decide)) hr hgd (by rfl) g__law_take k_f__law_take b__law_take (passes_call (takes_of rfl rfl rfl rfl) (fun _ _ _ _ h => h)) (zAb (i := 0) (by rfl) (zAd zInt aNil) (by decide)))) (zNm (i := 2) sc.nd (by rfl) (Or.inl rfl) (by exact (show (2 : Nat) ∉ ([0] : List Nat) by decide))))
  (zSeq (zAsg (zAdd zInt (zFr (zCall (bs := [0]) (F__law_take.mono (by decide)) hr hgd (by rfl) g__law_take k_f__law_take b__law_take (passes_call (takes_of rfl rfl rfl rfl) (fun _ _ _ _ h => h)) (zAb (i := 0) (by rfl) (zAd (zVar (i := 1)) aNil) (by decide))))) (zNm (i := 3) sc.nd (by rfl) (Or.inl rfl) (by exact (show (3 : Nat) ∉ ([0] : List Nat) by decide))))
  (zSeq (zSto (i := 4) sc.nd (by rfl) (Or.inl rfl) (by exact (show (4 : Nat) ∉ ([0] : List Nat) by decide)) (zLst zNil))
  (zSeq (zFor (passes_of (by rfl)) (by rfl) (zIr2 (by rfl) n_range (zCons zInt (zCons (zVar (i := 1)) zNil))) (zNm (i := 5) sc.nd (by rfl) (Or.inl rfl) (by exact (show (5 : Nat) ∉ ([0] : List Nat) by decide))) (fun _ => (zOne (zIf (yEq (by rfl) hu (zVar (i := 2)) zInt) (zOne (zDrop (zMut PySem.F.slot_list_append PySem.F.type_list_append mt_append ans_app (zPv (i := 4)) (zAO1 (zSh (zSub (zVar (i := 5)) zInt)) zAO0)))) (zOne (zIf (yEq (by rfl) hu (zVar (i := 2)) zInt) (zOne (zDrop (zMut PySem.F.slot_list_append PySem.F.type_list_append mt_append ans_app (zPv (i := 4)) (zAO1 (zSh zInt) zAO0)))) (zOne (zIf (yEq (by rfl) hu (zVar (i := 2)) zInt) (zOne (zDrop (zMut PySem.F.slot_list_append PySem.F.type_list_append mt_append ans_app (zPv (i := 4)) (zAO1 (zSh (zIx (by rfl) (zFr (zLst (zCons (zIx (by rfl) (zFr (zLst (zCons zInt (zCons (zSub (zVar (i := 3)) zInt) zNil)))) (zFr (zCall (bs := [0]) (F__law_take.mono (by decide)) hr hgd (by rfl) g__law_take k_f__law_take b__law_take (passes_call (takes_of rfl rfl rfl rfl) (fun _ _ _ _ h => h)) (zAb (i := 0) (by rfl) (zAd zInt aNil) (by decide))))) (zCons (zSub (zVar (i := 5)) zInt) zNil)))) (zT call_int1 ans_int PyProof.Rows.boot_int (by rfl) n_int (zCons (zLt (zVar (i := 5)) (zVar (i := 3))) zNil)))) zAO0)))) (zOne (zIf (yAnd (yEq (by rfl) hu (zVar (i := 2)) zInt) (yAnd1 (yLt (zVar (i := 5)) zInt))).pt (zOne (zDrop (zMut PySem.F.slot_list_append PySem.F.type_list_append mt_append ans_app (zPv (i := 4)) (zAO1 (zSh (zIx (by rfl) (zFr (zLst (zCons zInt (zCons zInt (zCons zInt (zCons zInt (zCons zInt zNil))))))) (zSub (zVar (i := 5)) zInt))) zAO0)))) (zOne (zIf (yEq (by rfl) hu (zVar (i := 2)) zInt) (zOne (zDrop (zMut PySem.F.slot_list_append PySem.F.type_list_append mt_append ans_app (zPv (i := 4)) (zAO1 (zSh (zB (call_max2 rfl) ans_max2 PyProof.Rows.boot_max (by rfl) n_max (zCons zInt (zCons (zSub (zSub (zVar (i := 5)) zInt) (zFr (zCall (bs := [0]) (F__law_take.mono (by decide)) hr hgd (by rfl) g__law_take k_f__law_take b__law_take (passes_call (takes_of rfl rfl rfl rfl) (fun _ _ _ _ h => h)) (zAb (i := 0) (by rfl) (zAd zInt aNil) (by decide))))) zNil)))) zAO0)))) (zOne (zDrop (zMut PySem.F.slot_list_append PySem.F.type_list_append mt_append ans_app (zPv (i := 4)) (zAO1 (zCall (bs := [0]) (F__law_take.mono (by decide)) hr hgd (by rfl) g__law_take k_f__law_take b__law_take (passes_call (takes_of rfl rfl rfl rfl) (fun _ _ _ _ h => h)) (zAb (i := 0) (by rfl) (zAd (zVar (i := 5)) aNil) (by decide))) zAO0))))))))))))))))
  (zOne (zRet (zMov (i := 4) (hio := (by exact (show (4 : Nat) ∉ ([0] : List Nat) by decide))))))))))
theorem ok__law_parents (X0 : K.In h) (G0 : h.Ns mainGlobals mg) (cc : He.SaysD fa fn K) : ∃ fd, FnG P w K mg base (L2.CX P w) 2 (He.fAd K d__law_parents.at_) fd ["_law_bag_here", "_law_size"] (spM (ev K) 2 [0] f__law_parents) ∧ Binds K fd ["_law_bag_here", "_law_size"] [] ∧ PySem.W.keepIn K (.ref (He.fAd K d__law_parents.at_)) = true := by
  obtain ⟨fd, F⟩ := cc.def_ 14 (d := d__law_parents) rfl
  exact ⟨fd, bd__law_parents X0 G0 cc F, (F.bindsN fun _ _ _ _ _ _ us hl => match us, hl with | [_, _], _ => rfl), F.kp⟩
/-! _law_ties -/
def m__law_ties : MS := (sSeq (sAsg (mFr (mCall 2 [0] f__law_parents (mCons (aB 0) (mCons (aD (mVar 1)) (mC []))))) (gNm 2))
  (sSeq (sSto (m1x dLst (mC [])) 3)
  (sSeq (sAsg (m2x dGt (mFr (mCall 2 [0] f__law_take (mCons (aB 0) (mCons (aD (mC (.int 3))) (mC []))))) (mC (.int 0))) (gNm 4))
  (sSeq (sFor (m1x itR1 (mCons (mVar 1) (mC []))) (gNm 5) (sDrop (mMut fIns 3 (pVar 3) (mCons (mSh (m2x dIx (mFr (m1x dLst (mCons (mVar 5) (mCons (mFr (mCall 2 [0] f__law_take (mCons (aB 0) (mCons (aD (m2x dAdd (mVar 5) (mC (.int 1)))) (mC []))))) (mC []))))) (m1x fInt (mCons (mVar 4) (mC []))))) (mCons (mSh (mVar 5)) (mC []))))))
  (sSeq (sSto (m1x dLst (mC [])) 6)
  (sSeq (sFor (m1x itR2 (mCons (mC (.int 1)) (mCons (mVar 1) (mC [])))) (gNm 5) (sSeq (sAsg (mFr (m1x (mNew true gSort) (mCons (mFr (m1x dLst (mCons (mRd 3 (pIx 3 (pVar 3) (mVar 5))) (mCons (mRd 3 (pIx 3 (pVar 3) (m2x dIx (mVar 2) (m2x dSub (mVar 5) (mC (.int 1)))))) (mC []))))) (mC [])))) (gNm 7))
  (sDrop (mMut fApp 6 (pVar 6) (mCons (m1x dTup (mCons (m2x dIx (mVar 7) (mC (.int 0))) (mCons (m2x dIx (mVar 7) (mC (.int 1))) (mC [])))) (mC []))))))
  (sRet (m2N true dStep (mFr (m1x (mNew true gSort) (mCons (mUse 6) (mC [])))) (m2x dIx (mFr (m1x dLst (mCons (mC (.int 1)) (mCons (m1x dNeg (mC (.int 1))) (mC []))))) (mFr (mCall 2 [0] f__law_take (mCons (aB 0) (mCons (aD (mC (.int 2))) (mC []))))))))))))))
def f__law_ties : Fn := mkFn 8 m__law_ties
theorem sc__law_ties : FnScope ["_law_bag_here", "_law_size", "_law_parents_here", "_law_order", "_law_mixed", "_law_k", "_law_found", "_law_ends"] ["_law_bag_here", "_law_size"] (defScope s__law_ties) := ⟨rfl, rfl, rfl, by decide +kernel, rfl, by decide +kernel, by decide +kernel⟩
theorem bd__law_ties (X0 : K.In h) (G0 : h.Ns mainGlobals mg) (cc : He.SaysD fa fn K) {fd : FuncData} (F : FunD K d__law_ties.name d__law_ties.qual d__law_ties.params d__law_ties.body d__law_ties.scope (d__law_ties.dvs K) (d__law_ties.kws K) (He.fAd K d__law_ties.at_) fd) : FnG P w K mg base (L2.CX P w) 3 (He.fAd K d__law_ties.at_) fd ["_law_bag_here", "_law_size"] (spM (ev K) 2 [0] f__law_ties) := by
  have sc := sc__law_ties
  refine okG (k := 2) F sc rfl ?_
  intro cdv A outer s H W c hr hgd hE hio
  have g__law_parents := He.glo_ok X0 G0 (cc.fact 29 (f := .glo "_law_parents") rfl)
  have g__law_take := He.glo_ok X0 G0 (cc.fact 27 (f := .glo "_law_take") rfl)
  have n_range := He.free_ok X0 G0 (cc.fact 10 (f := .free "range") rfl)
  have n_int := He.free_ok X0 G0 (cc.fact 1 (f := .free "int") rfl)
  have n_sorted := He.free_ok X0 G0 (cc.fact 13 (f := .free "sorted") rfl)
  obtain ⟨fd__law_parents, F__law_parents, b__law_parents, k_f__law_parents⟩ := ok__law_parents (P := P) (w := w) (base := base) X0 G0 cc
  obtain ⟨fd__law_take, F__law_take, b__law_take, k_f__law_take⟩ := ok__law_take (P := P) (w := w) (base := base) X0 G0 cc
  have hu := hr.units
  obtain ⟨E0, G1, H1, B1, io1, vs1⟩ := c
  cases hE
  cases hio
  unfold m__law_ties
  exact (zSeq (zAsg (zFr (zCall (bs := [0]) (F__law_parents.mono (by decide)) hr hgd (by rfl) g__law_parents k_f__law_parents b__law_parents (passes_call (takes_of rfl rfl rfl rfl) (fun _ _ _ _ h => h)) (zAb (i := 0) (by rfl) (zAd (zVar (i := 1)) aNil) (by decide)))) (zNm (i := 2) sc.nd (by rfl) (Or.inl rfl) (by exact (show (2 : Nat) ∉ ([0] : List Nat) by decide))))
  (zSeq (zSto (i := 3) sc.nd (by rfl) (Or.inl rfl) (by exact (show (3 : Nat) ∉ ([0] : List Nat) by decide)) (zLst zNil))
  (zSeq (zAsg (zGt (zFr (zCall (bs := [0]) (F__law_take.mono (by decide)) hr hgd (by rfl) g__law_take k_f__law_take b__law_take (passes_call (takes_of rfl rfl rfl rfl) (fun _ _ _ _ h => h)) (zAb (i := 0) (by rfl) (zAd zInt aNil) (by decide)))) zInt) (zNm (i := 4) sc.nd (by rfl) (Or.inl rfl) (by exact (show (4 : Nat) ∉ ([0] : List Nat) by decide))))
  (zSeq (zFor (passes_of (by rfl)) (by rfl) (zIr1 (by rfl) n_range (zCons (zVar (i := 1)) zNil)) (zNm (i := 5) sc.nd (by rfl) (Or.inl rfl) (by exact (show (5 : Nat) ∉ ([0] : List Nat) by decide))) (fun _ => (zOne (zDrop (zMut PySem.F.slot_list_insert PySem.F.type_list_insert mt_insert ans_ins (zPv (i := 3)) (zAO1 (zSh (zIx (by rfl) (zFr (zLst (zCons (zVar (i := 5)) (zCons (zFr (zCall (bs := [0]) (F__law_take.mono (by decide)) hr hgd (by rfl) g__law_take k_f__law_take b__law_take (passes_call (takes_of rfl rfl rfl rfl) (fun _ _ _ _ h => h)) (zAb (i := 0) (by rfl) (zAd (zAdd (zVar (i := 5)) zInt) aNil) (by decide)))) zNil)))) (zT call_int1 ans_int PyProof.Rows.boot_int (by rfl) n_int (zCons (zVar (i := 4)) zNil)))) (zAO1 (zSh (zVar (i := 5))) zAO0)))))))
  (zSeq (zSto (i := 6) sc.nd (by rfl) (Or.inl rfl) (by exact (show (6 : Nat) ∉ ([0] : List Nat) by decide)) (zLst zNil))
  (zSeq (zFor (passes_of (by rfl)) (by rfl) (zIr2 (by rfl) n_range (zCons zInt (zCons (zVar (i := 1)) zNil))) (zNm (i := 5) sc.nd (by rfl) (Or.inl rfl) (by exact (show (5 : Nat) ∉ ([0] : List Nat) by decide))) (fun _ => (zSeq (zAsg (zFr (zBN (Z.CallR.or (Z.CallR.or cr_sortedI cr_sortedPO) cr_sortedTI) (ans_sort (by rfl)) PyProof.Rows.boot_sorted (by rfl) n_sorted (zCons (zFr (zLst (zCons (zRd (zPi (by rfl) (zPv (i := 3)) (zVar (i := 5)))) (zCons (zRd (zPi (by rfl) (zPv (i := 3)) (zIx (by rfl) (zVar (i := 2)) (zSub (zVar (i := 5)) zInt)))) zNil)))) zNil))) (zNm (i := 7) sc.nd (by rfl) (Or.inl rfl) (by exact (show (7 : Nat) ∉ ([0] : List Nat) by decide))))
  (zOne (zDrop (zMut PySem.F.slot_list_append PySem.F.type_list_append mt_append ans_app (zPv (i := 6)) (zAO1 (zTup (zCons (zIx (by rfl) (zVar (i := 7)) zInt) (zCons (zIx (by rfl) (zVar (i := 7)) zInt) zNil))) zAO0)))))))
  (zOne (zRet (zStep (by rfl) (zFr (zBN (Z.CallR.or (Z.CallR.or cr_sortedI cr_sortedPO) cr_sortedTI) (ans_sort (by rfl)) PyProof.Rows.boot_sorted (by rfl) n_sorted (zCons (zUse (i := 6) (hio := (by exact (show (6 : Nat) ∉ ([0] : List Nat) by decide)))) zNil))) (zIx (by rfl) (zFr (zLst (zCons zInt (zCons (zNeg zInt) zNil)))) (zFr (zCall (bs := [0]) (F__law_take.mono (by decide)) hr hgd (by rfl) g__law_take k_f__law_take b__law_take (passes_call (takes_of rfl rfl rfl rfl) (fun _ _ _ _ h => h)) (zAb (i := 0) (by rfl) (zAd zInt aNil) (by decide))))))))))))))
theorem ok__law_ties (X0 : K.In h) (G0 : h.Ns mainGlobals mg) (cc : He.SaysD fa fn K) : ∃ fd, FnG P w K mg base (L2.CX P w) 3 (He.fAd K d__law_ties.at_) fd ["_law_bag_here", "_law_size"] (spM (ev K) 2 [0] f__law_ties) ∧ Binds K fd ["_law_bag_here", "_law_size"] [] ∧ PySem.W.keepIn K (.ref (He.fAd K d__law_ties.at_)) = true := by
  obtain ⟨fd, F⟩ := cc.def_ 15 (d := d__law_ties) rfl
  exact ⟨fd, bd__law_ties X0 G0 cc F, (F.bindsN fun _ _ _ _ _ _ us hl => match us, hl with | [_, _], _ => rfl), F.kp⟩
/-! _law_wires -/
def m__law_wires : MS := (sSeq (sAsg (mFr (m2N true dRep (mFr (mCall 2 [0] f__law_some (mCons (aB 0) (mCons (aD (mVar 1)) (mC []))))) (m1x fInt (mCons (m2x dGt (mFr (mCall 2 [0] f__law_take (mCons (aB 0) (mCons (aD (mC (.int 3))) (mC []))))) (mC (.int 0))) (mC []))))) (gNm 3))
  (sSeq (sIf (mTst (m2x dEq (mFr (mCall 2 [0] f__law_take (mCons (aB 0) (mCons (aD (mC (.int 2))) (mC []))))) (mC (.int 0)))) (sSeq (sSto (m1x dLst (mC [])) 4)
  (sSeq (sFor (m1x itR1 (mCons (mVar 1) (mC []))) (gNm 5) (sSeq (sAsg (mVar 5) (gNm 6))
  (sSeq (sIf (mTst (m2x dEq (m1x fLen (mCons (m2x dIx (mVar 2) (mVar 5)) (mC []))) (mC (.int 1)))) (sAsg (m2x dIx (mFr (mComp (m1x itL (m2x dIx (mVar 2) (m2x dIx (m2x dIx (mVar 2) (mVar 5)) (mC (.int 0))))) (gNm 7) (mTst (m2x dEq (m1x fLen (mCons (m2x dIx (mVar 2) (mVar 7)) (mC []))) (mC (.int 1)))) (mVar 7) [7])) (mC (.int 0))) (gNm 6)) sNext)
  (sIf (mTst (m2x dIn (mVar 6) (mVar 3))) (sDrop (mMut fApp 4 (pVar 4) (mCons (mSh (mVar 5)) (mC [])))) sNext))))
  (sAsg (mUse 4) (gNm 3)))) sNext)
  (sRet (mSh (mVar 3)))))
def f__law_wires : Fn := mkFn 8 m__law_wires
theorem sc__law_wires : FnScope ["_law_bag_here", "_law_size", "_law_near_here", "_law_found", "_law_kept", "_law_post", "_law_first", "_law_other"] ["_law_bag_here", "_law_size", "_law_near_here"] (defScope s__law_wires) := ⟨rfl, rfl, rfl, by decide +kernel, rfl, by decide +kernel, by decide +kernel⟩
theorem bd__law_wires (X0 : K.In h) (G0 : h.Ns mainGlobals mg) (cc : He.SaysD fa fn K) {fd : FuncData} (F : FunD K d__law_wires.name d__law_wires.qual d__law_wires.params d__law_wires.body d__law_wires.scope (d__law_wires.dvs K) (d__law_wires.kws K) (He.fAd K d__law_wires.at_) fd) : FnG P w K mg base (L2.CX P w) 3 (He.fAd K d__law_wires.at_) fd ["_law_bag_here", "_law_size", "_law_near_here"] (spM (ev K) 3 [0] f__law_wires) := by
  have sc := sc__law_wires
  refine okG (k := 2) F sc rfl ?_
  intro cdv A outer s H W c hr hgd hE hio
  have g__law_some := He.glo_ok X0 G0 (cc.fact 30 (f := .glo "_law_some") rfl)
  have g__law_take := He.glo_ok X0 G0 (cc.fact 27 (f := .glo "_law_take") rfl)
  have n_int := He.free_ok X0 G0 (cc.fact 1 (f := .free "int") rfl)
  have n_range := He.free_ok X0 G0 (cc.fact 10 (f := .free "range") rfl)
  have n_len := He.free_ok X0 G0 (cc.fact 8 (f := .free "len") rfl)
  obtain ⟨fd__law_some, F__law_some, b__law_some, k_f__law_some⟩ := ok__law_some (P := P) (w := w) (base := base) X0 G0 cc
  obtain ⟨fd__law_take, F__law_take, b__law_take, k_f__law_take⟩ := ok__law_take (P := P) (w := w) (base := base) X0 G0 cc
  have hu := hr.units
  obtain ⟨E0, G1, H1, B1, io1, vs1⟩ := c
  cases hE
  cases hio
  unfold m__law_wires
  exact (zSeq (zAsg (zFr (zRep (zFr (zCall (bs := [0]) (F__law_some.mono (by decide)) hr hgd (by rfl) g__law_some k_f__law_some b__law_some (passes_call (takes_of rfl rfl rfl rfl) (fun _ _ _ _ h => h)) (zAb (i := 0) (by rfl) (zAd (zVar (i := 1)) aNil) (by decide)))) (zT call_int1 ans_int PyProof.Rows.boot_int (by rfl) n_int (zCons (zGt (zFr (zCall (bs := [0]) (F__law_take.mono (by decide)) hr hgd (by rfl) g__law_take k_f__law_take b__law_take (passes_call (takes_of rfl rfl rfl rfl) (fun _ _ _ _ h => h)) (zAb (i := 0) (by rfl) (zAd zInt aNil) (by decide)))) zInt) zNil)))) (zNm (i := 3) sc.nd (by rfl) (Or.inl rfl) (by exact (show (3 : Nat) ∉ ([0] : List Nat) by decide))))
  (zSeq (zIf (yEq (by rfl) hu (zFr (zCall (bs := [0]) (F__law_take.mono (by decide)) hr hgd (by rfl) g__law_take k_f__law_take b__law_take (passes_call (takes_of rfl rfl rfl rfl) (fun _ _ _ _ h => h)) (zAb (i := 0) (by rfl) (zAd zInt aNil) (by decide)))) zInt) (zSeq (zSto (i := 4) sc.nd (by rfl) (Or.inl rfl) (by exact (show (4 : Nat) ∉ ([0] : List Nat) by decide)) (zLst zNil))
  (zSeq (zFor (passes_of (by rfl)) (by rfl) (zIr1 (by rfl) n_range (zCons (zVar (i := 1)) zNil)) (zNm (i := 5) sc.nd (by rfl) (Or.inl rfl) (by exact (show (5 : Nat) ∉ ([0] : List Nat) by decide))) (fun _ => (zSeq (zAsg (zVar (i := 5)) (zNm (i := 6) sc.nd (by rfl) (Or.inl rfl) (by exact (show (6 : Nat) ∉ ([0] : List Nat) by decide))))
  (zSeq (zIf (yEq (by rfl) hu (zB call_len (ans_len (by rfl)) PySem.boot_len (by rfl) n_len (zCons (zIx (by rfl) (zVar (i := 2)) (zVar (i := 5))) zNil)) zInt) (zOne (zAsg (zIx (by rfl) (zFr (zComp (own := [("_law_other", 7)]) (vs := [7]) (by rfl) sc.nd (zIl (by rfl) (zIx (by rfl) (zVar (i := 2)) (zIx (by rfl) (zIx (by rfl) (zVar (i := 2)) (zVar (i := 5))) zInt))) (blkOk_by (N := ["_law_bag_here", "_law_size", "_law_near_here", "_law_found", "_law_kept", "_law_post", "_law_first", "_law_other"]) (sc := defScope s__law_wires) (by decide +kernel)) (by rfl) (by exact (show ∀ v ∈ ([7] : List Nat), v < 8 by decide)) (by exact (show ∀ v ∈ ([7] : List Nat), v ∉ ([0] : List Nat) by decide)) (by decide) (fun _ _ _ _ _ => (zNm (i := 7) sc.nd (by rfl) (by first | exact Or.inl rfl | exact Or.inr rfl) (by exact (show (7 : Nat) ∉ ([0] : List Nat) by decide)))) (fun _ _ _ _ _ => (zIf1 (yEq (by rfl) hu (zB call_len (ans_len (by rfl)) PySem.boot_len (by rfl) n_len (zCons (zIx (by rfl) (zVar (i := 2)) (zVar (i := 7))) zNil)) zInt))) (fun _ _ _ _ _ => (zVar (i := 7))))) zInt) (zNm (i := 6) sc.nd (by rfl) (Or.inl rfl) (by exact (show (6 : Nat) ∉ ([0] : List Nat) by decide))))) zDone)
  (zOne (zIf (yIn (by rfl) (zVar (i := 6)) (zVar (i := 3))) (zOne (zDrop (zMut PySem.F.slot_list_append PySem.F.type_list_append mt_append ans_app (zPv (i := 4)) (zAO1 (zSh (zVar (i := 5))) zAO0)))) zDone))))))
  (zOne (zAsg (zUse (i := 4) (hio := (by exact (show (4 : Nat) ∉ ([0] : List Nat) by decide)))) (zNm (i := 3) sc.nd (by rfl) (Or.inl rfl) (by exact (show (3 : Nat) ∉ ([0] : List Nat) by decide))))))) zDone)
  (zOne (zRet (zSh (zVar (i := 3)))))))
theorem ok__law_wires (X0 : K.In h) (G0 : h.Ns mainGlobals mg) (cc : He.SaysD fa fn K) : ∃ fd, FnG P w K mg base (L2.CX P w) 3 (He.fAd K d__law_wires.at_) fd ["_law_bag_here", "_law_size", "_law_near_here"] (spM (ev K) 3 [0] f__law_wires) ∧ Binds K fd ["_law_bag_here", "_law_size", "_law_near_here"] [] ∧ PySem.W.keepIn K (.ref (He.fAd K d__law_wires.at_)) = true := by
  obtain ⟨fd, F⟩ := cc.def_ 16 (d := d__law_wires) rfl
  exact ⟨fd, bd__law_wires X0 G0 cc F, (F.bindsN fun _ _ _ _ _ _ us hl => match us, hl with | [_, _, _], _ => rfl), F.kp⟩
/-! Yard.neighbours -/
def m_Yard_neighbours : MS := (sSeq (sIf (mNot (mTst (mFr (mCall 2 [] f_is_post (mCons (aD (mVar 1)) (mCons (aD (m1x (dAtC "Yard" "kept_size") (mVar 0))) (mC []))))))) sBad sNext)
  (sRet (m1x (mNew true gList) (mCons (m2x dIx (m1x (dAtC "Yard" "kept_near") (mVar 0)) (mVar 1)) (mC [])))))
def f_Yard_neighbours : Fn := mkFn 2 m_Yard_neighbours
theorem sc_Yard_neighbours : FnScope ["self", "post"] ["self", "post"] (defScope s_Yard_neighbours) := ⟨rfl, rfl, rfl, by decide +kernel, rfl, by decide +kernel, by decide +kernel⟩
theorem bd_Yard_neighbours (X0 : K.In h) (G0 : h.Ns mainGlobals mg) (cc : He.SaysD fa fn K) {fd : FuncData} (F : FunD K d_Yard_neighbours.name d_Yard_neighbours.qual d_Yard_neighbours.params d_Yard_neighbours.body d_Yard_neighbours.scope (d_Yard_neighbours.dvs K) (d_Yard_neighbours.kws K) (He.fAd K d_Yard_neighbours.at_) fd) : FnG P w K mg base (L2.CX P w) 3 (He.fAd K d_Yard_neighbours.at_) fd ["self", "post"] (spM (ev K) 2 [] f_Yard_neighbours) := by
  have sc := sc_Yard_neighbours
  refine okG (k := 2) F sc rfl ?_
  intro cdv A outer s H W c hr hgd hE hio
  have k_Yard := He.cls_ok (cc.fact 17 (f := .cls "Yard") rfl)
  have na_Yard_kept_size := He.noat_ok (cc.fact 18 (f := .noat "Yard" "kept_size") rfl)
  have g_is_post := He.glo_ok X0 G0 (cc.fact 6 (f := .glo "is_post") rfl)
  have na_Yard_kept_near := He.noat_ok (cc.fact 22 (f := .noat "Yard" "kept_near") rfl)
  have n_list := He.free_ok X0 G0 (cc.fact 4 (f := .free "list") rfl)
  obtain ⟨fd_is_post, F_is_post, b_is_post, k_f_is_post⟩ := ok_is_post (P := P) (w := w) (base := base) X0 G0 cc
  have hu := hr.units
  obtain ⟨E0, G1, H1, B1, io1, vs1⟩ := c
  cases hE
  cases hio
  unfold m_Yard_neighbours
  exact (zSeq (zIf (yNot (yVal (zFr (zCall (bs := []) (F_is_post.mono (by decide)) hr hgd (by rfl) g_is_post k_f_is_post b_is_post (passes_call (takes_of rfl rfl rfl rfl) (fun _ _ _ _ h => h)) (zAd (zVar (i := 1)) (zAd (zAtt (by rfl) (zVar (i := 0)) k_Yard na_Yard_kept_size) aNil)))))) (zOne zBadS) zDone)
  (zOne (zRet (zTN call_list_of (ans_list (by rfl)) PyProof.Rows.boot_list (by rfl) n_list (zCons (zIx (by rfl) (zAtt (by rfl) (zVar (i := 0)) k_Yard na_Yard_kept_near) (zVar (i := 1))) zNil)))))
theorem ok_Yard_neighbours (X0 : K.In h) (G0 : h.Ns mainGlobals mg) (cc : He.SaysD fa fn K) : ∃ fd, FnG P w K mg base (L2.CX P w) 3 (He.fAd K d_Yard_neighbours.at_) fd ["self", "post"] (spM (ev K) 2 [] f_Yard_neighbours) ∧ Binds K fd ["self", "post"] [] ∧ PySem.W.keepIn K (.ref (He.fAd K d_Yard_neighbours.at_)) = true := by
  obtain ⟨fd, F⟩ := cc.def_ 17 (d := d_Yard_neighbours) rfl
  exact ⟨fd, bd_Yard_neighbours X0 G0 cc F, (F.bindsN fun _ _ _ _ _ _ us hl => match us, hl with | [_, _], _ => rfl), F.kp⟩
/-! pieces -/
def m_pieces : MS := (sSeq (sSto (m1x dLst (mC [])) 2)
  (sSeq (sSto (mC (.dic [] [])) 3)
  (sSeq (sFor (m1x itL (mVar 1)) (gNm 4) (sIf (mTst (m2x dDNi (mVar 4) (mLook 3))) (sSeq (sSto (m1x dLst (mCons (mVar 4) (mC []))) 5)
  (sSeq (sSetD 3 (mC (.bl true)) (pVar 3) (mVar 4))
  (sSeq (sAsg (mC (.int 0)) (gNm 6))
  (sSeq (sWhile 100000 (mTst (m2x dLt (mVar 6) (m1x fLen (mCons (mLook 5) (mC []))))) (sSeq (sFor (m1x itL (mFr (mMeth "Yard" "neighbours" 2 [] f_Yard_neighbours (mVar 0) (mCons (aD (mRd 5 (pIx 5 (pVar 5) (mVar 6)))) (mC []))))) (gNm 7) (sIf (mAnd (mTst (m2x dIn (mVar 7) (mVar 1))) (mTst (m2x dDNi (mVar 7) (mLook 3)))) (sSeq (sSetD 3 (mC (.bl true)) (pVar 3) (mVar 7))
  (sDrop (mMut fApp 5 (pVar 5) (mCons (mSh (mVar 7)) (mC []))))) sNext))
  (sAug 6 dAdd (mC (.int 1)))))
  (sDrop (mMut fApp 2 (pVar 2) (mCons (m1x (mNew false gSort) (mCons (mLook 5) (mC []))) (mC [])))))))) sNext))
  (sRet (mMov 2)))))
def f_pieces : Fn := mkFn 8 m_pieces
theorem sc_pieces : FnScope ["yard", "position", "found", "known", "post", "piece", "at", "other"] ["yard", "position"] (defScope s_pieces) := ⟨rfl, rfl, rfl, by decide +kernel, rfl, by decide +kernel, by decide +kernel⟩
theorem bd_pieces (X0 : K.In h) (G0 : h.Ns mainGlobals mg) (cc : He.SaysD fa fn K) {fd : FuncData} (F : FunD K d_pieces.name d_pieces.qual d_pieces.params d_pieces.body d_pieces.scope (d_pieces.dvs K) (d_pieces.kws K) (He.fAd K d_pieces.at_) fd) : FnG P w K mg base (L2.CX P w) 4 (He.fAd K d_pieces.at_) fd ["yard", "position"] (spM (ev K) 2 [] f_pieces) := by
  have sc := sc_pieces
  refine okG (k := 3) F sc rfl ?_
  intro cdv A outer s H W c hr hgd hE hio
  have n_len := He.free_ok X0 G0 (cc.fact 8 (f := .free "len") rfl)
  have k_Yard := He.cls_ok (cc.fact 17 (f := .cls "Yard") rfl)
  have m_Yard_neighbours := He.meth_ok (cc.fact 31 (f := .meth "Yard" "neighbours") rfl)
  have n_sorted := He.free_ok X0 G0 (cc.fact 13 (f := .free "sorted") rfl)
  obtain ⟨fd_Yard_neighbours, F_Yard_neighbours, b_Yard_neighbours, k_f_Yard_neighbours⟩ := ok_Yard_neighbours (P := P) (w := w) (base := base) X0 G0 cc
  have hu := hr.units
  obtain ⟨E0, G1, H1, B1, io1, vs1⟩ := c
  cases hE
  cases hio
  unfold m_pieces
  exact (zSeq (zSto (i := 2) sc.nd (by rfl) (Or.inl rfl) (by exact (show (2 : Nat) ∉ ([] : List Nat) by decide)) (zLst zNil))
  (zSeq (zSto (i := 3) sc.nd (by rfl) (Or.inl rfl) (by exact (show (3 : Nat) ∉ ([] : List Nat) by decide)) zDnew)
  (zSeq (zFor (passes_of (by rfl)) (by rfl) (zIl (by rfl) (zVar (i := 1))) (zNm (i := 4) sc.nd (by rfl) (Or.inl rfl) (by exact (show (4 : Nat) ∉ ([] : List Nat) by decide))) (fun _ => (zOne (zIf (yDNi hu (zVar (i := 4)) (zLook (i := 3))) (zSeq (zSto (i := 5) sc.nd (by rfl) (Or.inl rfl) (by exact (show (5 : Nat) ∉ ([] : List Nat) by decide)) (zLst (zCons (zVar (i := 4)) zNil)))
  (zSeq (zSetD hu (zPv (i := 3)) (zVar (i := 4)) zBl)
  (zSeq (zAsg zInt (zNm (i := 6) sc.nd (by rfl) (Or.inl rfl) (by exact (show (6 : Nat) ∉ ([] : List Nat) by decide))))
  (zSeq (zWhile (passes_of (by rfl)) (yLt (zVar (i := 6)) (zB call_len (ans_len (by rfl)) PySem.boot_len (by rfl) n_len (zCons (zLook (i := 5)) zNil))) (zSeq (zFor (passes_of (by rfl)) (by rfl) (zIl (by rfl) (zFr (zMeth (bs := []) (by rfl) (zVar (i := 0)) k_Yard m_Yard_neighbours (F_Yard_neighbours.mono (by decide)) hr hgd b_Yard_neighbours (passes_call (takes_of rfl rfl rfl rfl) (fun _ _ _ _ h => h)) (zAd (zRd (zPi (by rfl) (zPv (i := 5)) (zVar (i := 6)))) aNil)))) (zNm (i := 7) sc.nd (by rfl) (Or.inl rfl) (by exact (show (7 : Nat) ∉ ([] : List Nat) by decide))) (fun _ => (zOne (zIf (yAnd (yIn (by rfl) (zVar (i := 7)) (zVar (i := 1))) (yAnd1 (yDNi hu (zVar (i := 7)) (zLook (i := 3))))).pt (zSeq (zSetD hu (zPv (i := 3)) (zVar (i := 7)) zBl)
  (zOne (zDrop (zMut PySem.F.slot_list_append PySem.F.type_list_append mt_append ans_app (zPv (i := 5)) (zAO1 (zSh (zVar (i := 7))) zAO0))))) zDone))))
  (zOne (zAug (i := 6) sc.nd (by rfl) (Or.inl rfl) (by exact (show (6 : Nat) ∉ ([] : List Nat) by decide)) zInt (by decide) iop_add ans_add))))
  (zOne (zDrop (zMut PySem.F.slot_list_append PySem.F.type_list_append mt_append ans_app (zPv (i := 2)) (zAO1 (zBN (Z.CallR.or (Z.CallR.or cr_sortedI cr_sortedPO) cr_sortedTI) (ans_sort (by rfl)) PyProof.Rows.boot_sorted (by rfl) n_sorted (zCons (zLook (i := 5)) zNil)) zAO0)))))))) zDone))))
  (zOne (zRet (zMov (i := 2) (hio := (by exact (show (2 : Nat) ∉ ([] : List Nat) by decide)))))))))
theorem ok_pieces (X0 : K.In h) (G0 : h.Ns mainGlobals mg) (cc : He.SaysD fa fn K) : ∃ fd, FnG P w K mg base (L2.CX P w) 4 (He.fAd K d_pieces.at_) fd ["yard", "position"] (spM (ev K) 2 [] f_pieces) ∧ Binds K fd ["yard", "position"] [] ∧ PySem.W.keepIn K (.ref (He.fAd K d_pieces.at_)) = true := by
  obtain ⟨fd, F⟩ := cc.def_ 18 (d := d_pieces) rfl
  exact ⟨fd, bd_pieces X0 G0 cc F, (F.bindsN fun _ _ _ _ _ _ us hl => match us, hl with | [_, _], _ => rfl), F.kp⟩
/-! Yard.ties -/
def m_Yard_ties : MS := (sRet (m1x (mNew true gList) (mCons (m1x (dAtC "Yard" "kept_ties") (mVar 0)) (mC []))))
def f_Yard_ties : Fn := mkFn 1 m_Yard_ties
theorem sc_Yard_ties : FnScope ["self"] ["self"] (defScope s_Yard_ties) := ⟨rfl, rfl, rfl, by decide +kernel, rfl, by decide +kernel, by decide +kernel⟩
theorem bd_Yard_ties (X0 : K.In h) (G0 : h.Ns mainGlobals mg) (cc : He.SaysD fa fn K) {fd : FuncData} (F : FunD K d_Yard_ties.name d_Yard_ties.qual d_Yard_ties.params d_Yard_ties.body d_Yard_ties.scope (d_Yard_ties.dvs K) (d_Yard_ties.kws K) (He.fAd K d_Yard_ties.at_) fd) : FnG P w K mg base (L2.CX P w) 1 (He.fAd K d_Yard_ties.at_) fd ["self"] (spM (ev K) 1 [] f_Yard_ties) := by
  have sc := sc_Yard_ties
  refine okG (k := 0) F sc rfl ?_
  intro cdv A outer s H W c hr hgd hE hio
  have k_Yard := He.cls_ok (cc.fact 17 (f := .cls "Yard") rfl)
  have na_Yard_kept_ties := He.noat_ok (cc.fact 19 (f := .noat "Yard" "kept_ties") rfl)
  have n_list := He.free_ok X0 G0 (cc.fact 4 (f := .free "list") rfl)
  have hu := hr.units
  obtain ⟨E0, G1, H1, B1, io1, vs1⟩ := c
  cases hE
  cases hio
  unfold m_Yard_ties
  exact (zOne (zRet (zTN call_list_of (ans_list (by rfl)) PyProof.Rows.boot_list (by rfl) n_list (zCons (zAtt (by rfl) (zVar (i := 0)) k_Yard na_Yard_kept_ties) zNil))))
theorem ok_Yard_ties (X0 : K.In h) (G0 : h.Ns mainGlobals mg) (cc : He.SaysD fa fn K) : ∃ fd, FnG P w K mg base (L2.CX P w) 1 (He.fAd K d_Yard_ties.at_) fd ["self"] (spM (ev K) 1 [] f_Yard_ties) ∧ Binds K fd ["self"] [] ∧ PySem.W.keepIn K (.ref (He.fAd K d_Yard_ties.at_)) = true := by
  obtain ⟨fd, F⟩ := cc.def_ 19 (d := d_Yard_ties) rfl
  exact ⟨fd, bd_Yard_ties X0 G0 cc F, (F.bindsN fun _ _ _ _ _ _ us hl => match us, hl with | [_], _ => rfl), F.kp⟩
/-! Yard.wired -/
def m_Yard_wired : MS := (sRet (m1x (mNew true gList) (mCons (m1x (dAtC "Yard" "kept_wired") (mVar 0)) (mC []))))
def f_Yard_wired : Fn := mkFn 1 m_Yard_wired
theorem sc_Yard_wired : FnScope ["self"] ["self"] (defScope s_Yard_wired) := ⟨rfl, rfl, rfl, by decide +kernel, rfl, by decide +kernel, by decide +kernel⟩
theorem bd_Yard_wired (X0 : K.In h) (G0 : h.Ns mainGlobals mg) (cc : He.SaysD fa fn K) {fd : FuncData} (F : FunD K d_Yard_wired.name d_Yard_wired.qual d_Yard_wired.params d_Yard_wired.body d_Yard_wired.scope (d_Yard_wired.dvs K) (d_Yard_wired.kws K) (He.fAd K d_Yard_wired.at_) fd) : FnG P w K mg base (L2.CX P w) 1 (He.fAd K d_Yard_wired.at_) fd ["self"] (spM (ev K) 1 [] f_Yard_wired) := by
  have sc := sc_Yard_wired
  refine okG (k := 0) F sc rfl ?_
  intro cdv A outer s H W c hr hgd hE hio
  have k_Yard := He.cls_ok (cc.fact 17 (f := .cls "Yard") rfl)
  have na_Yard_kept_wired := He.noat_ok (cc.fact 20 (f := .noat "Yard" "kept_wired") rfl)
  have n_list := He.free_ok X0 G0 (cc.fact 4 (f := .free "list") rfl)
  have hu := hr.units
  obtain ⟨E0, G1, H1, B1, io1, vs1⟩ := c
  cases hE
  cases hio
  unfold m_Yard_wired
  exact (zOne (zRet (zTN call_list_of (ans_list (by rfl)) PyProof.Rows.boot_list (by rfl) n_list (zCons (zAtt (by rfl) (zVar (i := 0)) k_Yard na_Yard_kept_wired) zNil))))
theorem ok_Yard_wired (X0 : K.In h) (G0 : h.Ns mainGlobals mg) (cc : He.SaysD fa fn K) : ∃ fd, FnG P w K mg base (L2.CX P w) 1 (He.fAd K d_Yard_wired.at_) fd ["self"] (spM (ev K) 1 [] f_Yard_wired) ∧ Binds K fd ["self"] [] ∧ PySem.W.keepIn K (.ref (He.fAd K d_Yard_wired.at_)) = true := by
  obtain ⟨fd, F⟩ := cc.def_ 20 (d := d_Yard_wired) rfl
  exact ⟨fd, bd_Yard_wired X0 G0 cc F, (F.bindsN fun _ _ _ _ _ _ us hl => match us, hl with | [_], _ => rfl), F.kp⟩
/-! sign -/
def m_sign : MS := (sSeq (sAsg (mFr (mComp (m1x itL (mFr (mMeth "Yard" "ties" 1 [] f_Yard_ties (mVar 0) (mC [])))) (gNm 4) (mAnd (mTst (m2x dIn (m2x dIx (mVar 4) (mC (.int 0))) (mVar 1))) (mTst (m2x dIn (m2x dIx (mVar 4) (mC (.int 1))) (mVar 1)))) (mVar 4) [4])) (gNm 2))
  (sSeq (sAsg (mFr (mComp (m1x itL (mFr (mMeth "Yard" "wired" 1 [] f_Yard_wired (mVar 0) (mC [])))) (gNm 5) (mTst (m2x dIn (mVar 5) (mVar 1))) (mVar 5) [5])) (gNm 3))
  (sRet (mSh (m2x dMod (m2x dAdd (m2x dSub (m1x fLen (mCons (mVar 1) (mC []))) (m1x fLen (mCons (mVar 2) (mC [])))) (m1x fLen (mCons (mVar 3) (mC [])))) (mC (.int 2)))))))
def f_sign : Fn := mkFn 6 m_sign
theorem sc_sign : FnScope ["yard", "position", "inside", "wired", "tie", "post"] ["yard", "position"] (defScope s_sign) := ⟨rfl, rfl, rfl, by decide +kernel, rfl, by decide +kernel, by decide +kernel⟩
theorem bd_sign (X0 : K.In h) (G0 : h.Ns mainGlobals mg) (cc : He.SaysD fa fn K) {fd : FuncData} (F : FunD K d_sign.name d_sign.qual d_sign.params d_sign.body d_sign.scope (d_sign.dvs K) (d_sign.kws K) (He.fAd K d_sign.at_) fd) : FnG P w K mg base (L2.CX P w) 2 (He.fAd K d_sign.at_) fd ["yard", "position"] (spM (ev K) 2 [] f_sign) := by
  have sc := sc_sign
  refine okG (k := 1) F sc rfl ?_
  intro cdv A outer s H W c hr hgd hE hio
  have k_Yard := He.cls_ok (cc.fact 17 (f := .cls "Yard") rfl)
  have m_Yard_ties := He.meth_ok (cc.fact 32 (f := .meth "Yard" "ties") rfl)
  have m_Yard_wired := He.meth_ok (cc.fact 33 (f := .meth "Yard" "wired") rfl)
  have n_len := He.free_ok X0 G0 (cc.fact 8 (f := .free "len") rfl)
  obtain ⟨fd_Yard_ties, F_Yard_ties, b_Yard_ties, k_f_Yard_ties⟩ := ok_Yard_ties (P := P) (w := w) (base := base) X0 G0 cc
  obtain ⟨fd_Yard_wired, F_Yard_wired, b_Yard_wired, k_f_Yard_wired⟩ := ok_Yard_wired (P := P) (w := w) (base := base) X0 G0 cc
  have hu := hr.units
  obtain ⟨E0, G1, H1, B1, io1, vs1⟩ := c
  cases hE
  cases hio
  unfold m_sign
  exact (zSeq (zAsgC (i := 2) (own := [("tie", 4)]) (vs := [4]) (by rfl) sc.nd (by rfl) (by rfl) (by exact (show (2 : Nat) ∉ ([] : List Nat) by decide)) (sw_true (by rfl) (by rfl) (by rfl) (by decide +kernel)) (zIl (by rfl) (zFr (zMeth0 (by rfl) (zVar (i := 0)) k_Yard m_Yard_ties (F_Yard_ties.mono (by decide)) hr hgd b_Yard_ties (passes_call (takes_of rfl rfl rfl rfl) (fun _ _ _ _ h => h))))) (blkOk_by (N := ["yard", "position", "inside", "wired", "tie", "post"]) (sc := defScope s_sign) (by decide +kernel)) (by rfl) (by exact (show ∀ v ∈ ([4] : List Nat), v < 6 by decide)) (by exact (show ∀ v ∈ ([4] : List Nat), v ∉ ([] : List Nat) by decide)) (by decide) (fun _ _ _ _ _ => (zNm (i := 4) sc.nd (by rfl) (by first | exact Or.inl rfl | exact Or.inr rfl) (by exact (show (4 : Nat) ∉ ([] : List Nat) by decide)))) (fun _ _ _ _ _ => (zIf1 (yAnd (yIn (by rfl) (zIx (by rfl) (zVar (i := 4)) zInt) (zVar (i := 1))) (yAnd1 (yIn (by rfl) (zIx (by rfl) (zVar (i := 4)) zInt) (zVar (i := 1))))).pt)) (fun _ _ _ _ _ => (zVar (i := 4))))
  (zSeq (zAsgC (i := 3) (own := [("post", 5)]) (vs := [5]) (by rfl) sc.nd (by rfl) (by rfl) (by exact (show (3 : Nat) ∉ ([] : List Nat) by decide)) (sw_true (by rfl) (by rfl) (by rfl) (by decide +kernel)) (zIl (by rfl) (zFr (zMeth0 (by rfl) (zVar (i := 0)) k_Yard m_Yard_wired (F_Yard_wired.mono (by decide)) hr hgd b_Yard_wired (passes_call (takes_of rfl rfl rfl rfl) (fun _ _ _ _ h => h))))) (blkOk_by (N := ["yard", "position", "inside", "wired", "tie", "post"]) (sc := defScope s_sign) (by decide +kernel)) (by rfl) (by exact (show ∀ v ∈ ([5] : List Nat), v < 6 by decide)) (by exact (show ∀ v ∈ ([5] : List Nat), v ∉ ([] : List Nat) by decide)) (by decide) (fun _ _ _ _ _ => (zNm (i := 5) sc.nd (by rfl) (by first | exact Or.inl rfl | exact Or.inr rfl) (by exact (show (5 : Nat) ∉ ([] : List Nat) by decide)))) (fun _ _ _ _ _ => (zIf1 (yIn (by rfl) (zVar (i := 5)) (zVar (i := 1))))) (fun _ _ _ _ _ => (zVar (i := 5))))
  (zOne (zRet (zSh (zMod (zAdd (zSub (zB call_len (ans_len (by rfl)) PySem.boot_len (by rfl) n_len (zCons (zVar (i := 1)) zNil)) (zB call_len (ans_len (by rfl)) PySem.boot_len (by rfl) n_len (zCons (zVar (i := 2)) zNil))) (zB call_len (ans_len (by rfl)) PySem.boot_len (by rfl) n_len (zCons (zVar (i := 3)) zNil))) zInt))))))
theorem ok_sign (X0 : K.In h) (G0 : h.Ns mainGlobals mg) (cc : He.SaysD fa fn K) : ∃ fd, FnG P w K mg base (L2.CX P w) 2 (He.fAd K d_sign.at_) fd ["yard", "position"] (spM (ev K) 2 [] f_sign) ∧ Binds K fd ["yard", "position"] [] ∧ PySem.W.keepIn K (.ref (He.fAd K d_sign.at_)) = true := by
  obtain ⟨fd, F⟩ := cc.def_ 21 (d := d_sign) rfl
  exact ⟨fd, bd_sign X0 G0 cc F, (F.bindsN fun _ _ _ _ _ _ us hl => match us, hl with | [_, _], _ => rfl), F.kp⟩
/-! law -/
def m_law : MS := (sSeq (sSto (mCall 1 [] f__law_bag (mCons (aD (mVar 0)) (mC []))) 1)
  (sSeq (sFor (m1x itR1 (mCons (mC (.int 4)) (mC []))) (gNm 2) (sSeq (sAsg (m2x dAdd (mC (.int 1)) (mFr (mCall 2 [0] f__law_take (mCons (aB 1) (mCons (aD (m2x dIx (mFr (m1x dLst (mCons (mC (.int 3)) (mCons (mC (.int 10)) (mCons (mC (.int 60)) (mC [])))))) (mFr (mCall 2 [0] f__law_take (mCons (aB 1) (mCons (aD (mC (.int 3))) (mC []))))))) (mC [])))))) (gNm 3))
  (sSeq (sAsg (mFr (mCall 2 [0] f__law_ties (mCons (aB 1) (mCons (aD (mVar 3)) (mC []))))) (gNm 4))
  (sSeq (sAsg (mFr (mCall 2 [] f__law_near (mCons (aD (mVar 3)) (mCons (aD (mVar 4)) (mC []))))) (gNm 5))
  (sSeq (sAsg (mFr (mCall 3 [0] f__law_wires (mCons (aB 1) (mCons (aD (mVar 3)) (mCons (aD (mVar 5)) (mC [])))))) (gNm 6))
  (sSeq (sAsg (mFr (mMake "Yard" 4 [0] f_Yard___init__ 2 1 (· ++ ·) (mCons (aD (mVar 3)) (mCons (aD (mVar 4)) (mC []))) (mCons (aD (mVar 6)) (mC [])))) (gNm 7))
  (sSeq (sAsg (mFr (mComp (m1x itR1 (mCons (mC (.int 4)) (mC []))) (gNm 14) mYes (mFr (mCall 2 [0] f__law_some (mCons (aB 1) (mCons (aD (mVar 3)) (mC []))))) [14])) (gNm 8))
  (sFor (m1x itL (mFr (m2N true dCat (mVar 8) (mFr (m1N true dRevL (mVar 8)))))) (gNm 9) (sSeq (sAsg (mFr (mCall 2 [] f__law_pieces (mCons (aD (mVar 5)) (mCons (aD (mVar 9)) (mC []))))) (gNm 10))
  (sSeq (sAsg (mFr (m1x (mNew true gList) (mCons (mVar 9) (mC [])))) (gNm 11))
  (sSeq (sSto (mCall 2 [] f_pieces (mCons (aD (mVar 7)) (mCons (aD (mVar 9)) (mC [])))) 12)
  (sSeq (sAsg (m2x dAdd (m1x fLen (mCons (mVar 10) (mC []))) (m1x fLen (mCons (mFr (mComp (m1x itL (mVar 6)) (gNm 15) (mTst (m2x dIn (mVar 15) (mVar 9))) (mVar 15) [15])) (mC [])))) (gNm 13))
  (sSeq (sIf (mOr (mNot (mTst (mFr (mCall 2 [] f__law_alike (mCons (aS 12) (mCons (aD (mVar 10)) (mC []))))))) (mOr (mNot (mTst (mFr (mCall 2 [] f__law_alike (mCons (aD (mFr (mCall 2 [] f_sign (mCons (aD (mVar 7)) (mCons (aD (mVar 9)) (mC [])))))) (mCons (aD (m2x dMod (mVar 13) (mC (.int 2)))) (mC []))))))) (mTst (m2x dNe (mVar 9) (mVar 11))))) (sRet (mSh (mC (.bl false)))) sNext)
  (sSeq (sDrop (mMut fApp 12 (pVar 12) (mCons (m1x dLst (mC [])) (mC []))))
  (sSeq (sIf (mTst (m2x dNe (mRv 12 (pIx 12 (pVar 12) (mC (.int 0)))) (mFr (m1x dLst (mC []))))) (sDrop (mMut fApp 12 (pIx 12 (pVar 12) (mC (.int 0))) (mCons (mSh (mC (.int 8))) (mC [])))) sNext)
  (sIf (mTst (m2x dNe (mFr (mCall 2 [] f_sign (mCons (aD (mFr (mMeth "Yard" "rewired" 2 [] f_Yard_rewired (mVar 7) (mCons (aD (mFr (m1x dTup (mC [])))) (mC []))))) (mCons (aD (mVar 9)) (mC []))))) (m2x dMod (m1x fLen (mCons (mVar 10) (mC []))) (mC (.int 2))))) (sRet (mSh (mC (.bl false)))) sNext))))))))))))))))
  (sRet (mSh (mC (.bl true))))))
def f_law : Fn := mkFn 16 m_law
theorem sc_law : FnScope ["_law_script", "_law_bag_here", "_law_k", "_law_size", "_law_ties_here", "_law_near_here", "_law_wire_set", "_law_yard", "_law_rows", "_law_up", "_law_due", "_law_kept", "_law_told", "_law_many", "_law_turn", "_law_post"] ["_law_script"] (defScope s_law) := ⟨rfl, rfl, rfl, by decide +kernel, rfl, by decide +kernel, by decide +kernel⟩
theorem bd_law (X0 : K.In h) (G0 : h.Ns mainGlobals mg) (cc : He.SaysD fa fn K) {fd : FuncData} (F : FunD K d_law.name d_law.qual d_law.params d_law.body d_law.scope (d_law.dvs K) (d_law.kws K) (He.fAd K d_law.at_) fd) : FnG P w K mg base (L2.CX P w) 8 (He.fAd K d_law.at_) fd ["_law_script"] (spM (ev K) 1 [] f_law) := by
  have sc := sc_law
  refine okG (k := 7) F sc rfl ?_
  intro cdv A outer s H W c hr hgd hE hio
  have g__law_bag := He.glo_ok X0 G0 (cc.fact 34 (f := .glo "_law_bag") rfl)
  have n_range := He.free_ok X0 G0 (cc.fact 10 (f := .free "range") rfl)
  have g__law_take := He.glo_ok X0 G0 (cc.fact 27 (f := .glo "_law_take") rfl)
  have g__law_ties := He.glo_ok X0 G0 (cc.fact 35 (f := .glo "_law_ties") rfl)
  have g__law_near := He.glo_ok X0 G0 (cc.fact 36 (f := .glo "_law_near") rfl)
  have g__law_wires := He.glo_ok X0 G0 (cc.fact 37 (f := .glo "_law_wires") rfl)
  have mk_Yard := He.mkr_ok (cc.fact 23 (f := .mkr "Yard") rfl)
  have g_Yard := He.glo_ok X0 G0 (cc.fact 24 (f := .glo "Yard") rfl)
  have g__law_some := He.glo_ok X0 G0 (cc.fact 30 (f := .glo "_law_some") rfl)
  have g__law_pieces := He.glo_ok X0 G0 (cc.fact 38 (f := .glo "_law_pieces") rfl)
  have n_list := He.free_ok X0 G0 (cc.fact 4 (f := .free "list") rfl)
  have g_pieces := He.glo_ok X0 G0 (cc.fact 39 (f := .glo "pieces") rfl)
  have n_len := He.free_ok X0 G0 (cc.fact 8 (f := .free "len") rfl)
  have g__law_alike := He.glo_ok X0 G0 (cc.fact 40 (f := .glo "_law_alike") rfl)
  have g_sign := He.glo_ok X0 G0 (cc.fact 41 (f := .glo "sign") rfl)
  have k_Yard := He.cls_ok (cc.fact 17 (f := .cls "Yard") rfl)
  have m_Yard_rewired := He.meth_ok (cc.fact 42 (f := .meth "Yard" "rewired") rfl)
  obtain ⟨fd__law_bag, F__law_bag, b__law_bag, k_f__law_bag⟩ := ok__law_bag (P := P) (w := w) (base := base) X0 G0 cc
  obtain ⟨fd__law_take, F__law_take, b__law_take, k_f__law_take⟩ := ok__law_take (P := P) (w := w) (base := base) X0 G0 cc
  obtain ⟨fd__law_ties, F__law_ties, b__law_ties, k_f__law_ties⟩ := ok__law_ties (P := P) (w := w) (base := base) X0 G0 cc
  obtain ⟨fd__law_near, F__law_near, b__law_near, k_f__law_near⟩ := ok__law_near (P := P) (w := w) (base := base) X0 G0 cc
  obtain ⟨fd__law_wires, F__law_wires, b__law_wires, k_f__law_wires⟩ := ok__law_wires (P := P) (w := w) (base := base) X0 G0 cc
  obtain ⟨fd_Yard___init__, F_Yard___init__, b_Yard___init__, k_f_Yard___init__⟩ := ok_Yard___init__ (P := P) (w := w) (base := base) X0 G0 cc
  obtain ⟨fd__law_some, F__law_some, b__law_some, k_f__law_some⟩ := ok__law_some (P := P) (w := w) (base := base) X0 G0 cc
  obtain ⟨fd__law_pieces, F__law_pieces, b__law_pieces, k_f__law_pieces⟩ := ok__law_pieces (P := P) (w := w) (base := base) X0 G0 cc
  obtain ⟨fd_pieces, F_pieces, b_pieces, k_f_pieces⟩ := ok_pieces (P := P) (w := w) (base := base) X0 G0 cc
  obtain ⟨fd__law_alike, F__law_alike, b__law_alike, k_f__law_alike⟩ := ok__law_alike (P := P) (w := w) (base := base) X0 G0 cc
  obtain ⟨fd_sign, F_sign, b_sign, k_f_sign⟩ := ok_sign (P := P) (w := w) (base := base) X0 G0 cc
  obtain ⟨fd_Yard_rewired, F_Yard_rewired, b_Yard_rewired, k_f_Yard_rewired⟩ := ok_Yard_rewired (P := P) (w := w) (base := base) X0 G0 cc
  have hu := hr.units
  obtain ⟨E0, G1, H1, B1, io1, vs1⟩ := c
  cases hE
  cases hio
  unfold m_law
  exact (zSeq (zSto (i := 1) sc.nd (by rfl) (Or.inr rfl) (by exact (show (1 : Nat) ∉ ([] : List Nat) by decide)) (zCall (bs := []) (F__law_bag.mono (by decide)) hr hgd (by rfl) g__law_bag k_f__law_bag b__law_bag (passes_call (takes_of rfl rfl rfl rfl) (fun _ _ _ _ h => h)) (zAd (zVar (i := 0)) aNil)))
  (zSeq (zFor (passes_of (by rfl)) (by rfl) (zIr1 (by rfl) n_range (zCons zInt zNil)) (zNm (i := 2) sc.nd (by rfl) (Or.inl rfl) (by exact (show (2 : Nat) ∉ ([] : List Nat) by decide))) (fun _ => (zSeq (zAsg (zAdd zInt (zFr (zCall (bs := [1]) (F__law_take.mono (by decide)) hr hgd (by rfl) g__law_take k_f__law_take b__law_take (passes_call (takes_of rfl rfl rfl rfl) (fun _ _ _ _ h => h)) (zAb (i := 1) (by rfl) (zAd (zIx (by rfl) (zFr (zLst (zCons zInt (zCons zInt (zCons zInt zNil))))) (zFr (zCall (bs := [1]) (F__law_take.mono (by decide)) hr hgd (by rfl) g__law_take k_f__law_take b__law_take (passes_call (takes_of rfl rfl rfl rfl) (fun _ _ _ _ h => h)) (zAb (i := 1) (by rfl) (zAd zInt aNil) (by decide))))) aNil) (by decide))))) (zNm (i := 3) sc.nd (by rfl) (Or.inr rfl) (by exact (show (3 : Nat) ∉ ([] : List Nat) by decide))))
  (zSeq (zAsg (zFr (zCall (bs := [1]) (F__law_ties.mono (by decide)) hr hgd (by rfl) g__law_ties k_f__law_ties b__law_ties (passes_call (takes_of rfl rfl rfl rfl) (fun _ _ _ _ h => h)) (zAb (i := 1) (by rfl) (zAd (zVar (i := 3)) aNil) (by decide)))) (zNm (i := 4) sc.nd (by rfl) (Or.inl rfl) (by exact (show (4 : Nat) ∉ ([] : List Nat) by decide))))
  (zSeq (zAsg (zFr (zCall (bs := []) (F__law_near.mono (by decide)) hr hgd (by rfl) g__law_near k_f__law_near b__law_near (passes_call (takes_of rfl rfl rfl rfl) (fun _ _ _ _ h => h)) (zAd (zVar (i := 3)) (zAd (zVar (i := 4)) aNil)))) (zNm (i := 5) sc.nd (by rfl) (Or.inl rfl) (by exact (show (5 : Nat) ∉ ([] : List Nat) by decide))))
  (zSeq (zAsg (zFr (zCall (bs := [1]) (F__law_wires.mono (by decide)) hr hgd (by rfl) g__law_wires k_f__law_wires b__law_wires (passes_call (takes_of rfl rfl rfl rfl) (fun _ _ _ _ h => h)) (zAb (i := 1) (by rfl) (zAd (zVar (i := 3)) (zAd (zVar (i := 5)) aNil)) (by decide)))) (zNm (i := 6) sc.nd (by rfl) (Or.inl rfl) (by exact (show (6 : Nat) ∉ ([] : List Nat) by decide))))
  (zSeq (zAsg (zFr (zMakeA (nn := 2) (ks := ["wired"]) (bs := []) (cn := "Yard") (by rfl) (by exact (show ∀ i ∈ ([] : List Nat), i < 16 by decide)) mk_Yard (F_Yard___init__.mono (by decide)) hr hgd (by rfl) g_Yard b_Yard___init__ (passes_call (takes_of rfl rfl rfl rfl) (fun _ _ _ _ h => h)) (zAd (zVar (i := 3)) (zAd (zVar (i := 4)) aNil)) (kAd (zVar (i := 6)) kNil))) (zNm (i := 7) sc.nd (by rfl) (Or.inl rfl) (by exact (show (7 : Nat) ∉ ([] : List Nat) by decide))))
  (zSeq (zAsgC (i := 8) (own := [("_law_turn", 14)]) (vs := [14]) (by rfl) sc.nd (by rfl) (by rfl) (by exact (show (8 : Nat) ∉ ([] : List Nat) by decide)) (sw_true (by rfl) (by rfl) (by rfl) (by decide +kernel)) (zIr1 (by rfl) n_range (zCons zInt zNil)) (blkOk_by (N := ["_law_script", "_law_bag_here", "_law_k", "_law_size", "_law_ties_here", "_law_near_here", "_law_wire_set", "_law_yard", "_law_rows", "_law_up", "_law_due", "_law_kept", "_law_told", "_law_many", "_law_turn", "_law_post"]) (sc := defScope s_law) (by decide +kernel)) (by rfl) (by exact (show ∀ v ∈ ([14] : List Nat), v < 16 by decide)) (by exact (show ∀ v ∈ ([14] : List Nat), v ∉ ([] : List Nat) by decide)) (by decide) (fun _ _ _ _ _ => (zNm (i := 14) sc.nd (by rfl) (by first | exact Or.inl rfl | exact Or.inr rfl) (by exact (show (14 : Nat) ∉ ([] : List Nat) by decide)))) (fun _ _ _ _ _ => zNoIf) (fun _ _ _ _ _ => (zFr (zCall (bs := [1]) (F__law_some.mono (by decide)) hr hgd (by rfl) g__law_some k_f__law_some b__law_some passL (zAb (i := 1) (by rfl) (zAd (zVar (i := 3)) aNil) (by decide))))))
  (zOne (zFor (passes_of (by rfl)) (by rfl) (zIl (by rfl) (zFr (zCat (zVar (i := 8)) (zFr (zRev (by rfl) (zVar (i := 8))))))) (zNm (i := 9) sc.nd (by rfl) (Or.inr rfl) (by exact (show (9 : Nat) ∉ ([] : List Nat) by decide))) (fun _ => (zSeq (zAsg (zFr (zCall (bs := []) (F__law_pieces.mono (by decide)) hr hgd (by rfl) g__law_pieces k_f__law_pieces b__law_pieces (passes_call (takes_of rfl rfl rfl rfl) (fun _ _ _ _ h => h)) (zAd (zVar (i := 5)) (zAd (zVar (i := 9)) aNil)))) (zNm (i := 10) sc.nd (by rfl) (Or.inl rfl) (by exact (show (10 : Nat) ∉ ([] : List Nat) by decide))))
  (zSeq (zAsg (zFr (zTN call_list_of (ans_list (by rfl)) PyProof.Rows.boot_list (by rfl) n_list (zCons (zVar (i := 9)) zNil))) (zNm (i := 11) sc.nd (by rfl) (Or.inl rfl) (by exact (show (11 : Nat) ∉ ([] : List Nat) by decide))))
  (zSeq (zSto (i := 12) sc.nd (by rfl) (Or.inl rfl) (by exact (show (12 : Nat) ∉ ([] : List Nat) by decide)) (zCall (bs := []) (F_pieces.mono (by decide)) hr hgd (by rfl) g_pieces k_f_pieces b_pieces (passes_call (takes_of rfl rfl rfl rfl) (fun _ _ _ _ h => h)) (zAd (zVar (i := 7)) (zAd (zVar (i := 9)) aNil))))
  (zSeq (zAsg (zAdd (zB call_len (ans_len (by rfl)) PySem.boot_len (by rfl) n_len (zCons (zVar (i := 10)) zNil)) (zB call_len (ans_len (by rfl)) PySem.boot_len (by rfl) n_len (zCons (zFr (zComp (own := [("_law_post", 15)]) (vs := [15]) (by rfl) sc.nd (zIl (by rfl) (zVar (i := 6))) (blkOk_by (N := ["_law_script", "_law_bag_here", "_law_k", "_law_size", "_law_ties_here", "_law_near_here", "_law_wire_set", "_law_yard", "_law_rows", "_law_up", "_law_due", "_law_kept", "_law_told", "_law_many", "_law_turn", "_law_post"]) (sc := defScope s_law) (by decide +kernel)) (by rfl) (by exact (show ∀ v ∈ ([15] : List Nat), v < 16 by decide)) (by exact (show ∀ v ∈ ([15] : List Nat), v ∉ ([] : List Nat) by decide)) (by decide) (fun _ _ _ _ _ => (zNm (i := 15) sc.nd (by rfl) (by first | exact Or.inl rfl | exact Or.inr rfl) (by exact (show (15 : Nat) ∉ ([] : List Nat) by decide)))) (fun _ _ _ _ _ => (zIf1 (yIn (by rfl) (zVar (i := 15)) (zVar (i := 9))))) (fun _ _ _ _ _ => (zVar (i := 15))))) zNil))) (zNm (i := 13) sc.nd (by rfl) (Or.inl rfl) (by exact (show (13 : Nat) ∉ ([] : List Nat) by decide))))
  (zSeq (zIf (yOr (yNot (yVal (zFr (zCall (bs := []) (F__law_alike.mono (by decide)) hr hgd (by rfl) g__law_alike k_f__law_alike b__law_alike (passes_call (takes_of rfl rfl rfl rfl) (fun _ _ _ _ h => h)) (zAs (i := 12) (by rfl) (zAd (zVar (i := 10)) aNil)))))) (yOr (yNot (yVal (zFr (zCall (bs := []) (F__law_alike.mono (by decide)) hr hgd (by rfl) g__law_alike k_f__law_alike b__law_alike (passes_call (takes_of rfl rfl rfl rfl) (fun _ _ _ _ h => h)) (zAd (zFr (zCall (bs := []) (F_sign.mono (by decide)) hr hgd (by rfl) g_sign k_f_sign b_sign (passes_call (takes_of rfl rfl rfl rfl) (fun _ _ _ _ h => h)) (zAd (zVar (i := 7)) (zAd (zVar (i := 9)) aNil)))) (zAd (zMod (zVar (i := 13)) zInt) aNil)))))) (yOr1 (yNe (by rfl) hu (zVar (i := 9)) (zVar (i := 11)))))).pt (zOne (zRet (zSh zBl))) zDone)
  (zSeq (zDrop (zMut PySem.F.slot_list_append PySem.F.type_list_append mt_append ans_app (zPv (i := 12)) (zAO1 (zLst zNil) zAO0)))
  (zSeq (zIf (yNe (by rfl) hu (zRv (zPi (by rfl) (zPv (i := 12)) zInt)) (zFr (zLst zNil))) (zOne (zDrop (zMut PySem.F.slot_list_append PySem.F.type_list_append mt_append ans_app (zPi (by rfl) (zPv (i := 12)) zInt) (zAO1 (zSh zInt) zAO0)))) zDone)
  (zOne (zIf (yNe (by rfl) hu (zFr (zCall (bs := []) (F_sign.mono (by decide)) hr hgd (by rfl) g_sign k_f_sign b_sign (passes_call (takes_of rfl rfl rfl rfl) (fun _ _ _ _ h => h)) (zAd (zFr (zMeth (bs := []) (by rfl) (zVar (i := 7)) k_Yard m_Yard_rewired (F_Yard_rewired.mono (by decide)) hr hgd b_Yard_rewired (passes_call (takes_of rfl rfl rfl rfl) (fun _ _ _ _ h => h)) (zAd (zFr (zTup zNil)) aNil))) (zAd (zVar (i := 9)) aNil)))) (zMod (zB call_len (ans_len (by rfl)) PySem.boot_len (by rfl) n_len (zCons (zVar (i := 10)) zNil)) zInt)) (zOne (zRet (zSh zBl))) zDone))))))))))))))))))))
  (zOne (zRet (zSh zBl)))))
theorem ok_law (X0 : K.In h) (G0 : h.Ns mainGlobals mg) (cc : He.SaysD fa fn K) : ∃ fd, FnG P w K mg base (L2.CX P w) 8 (He.fAd K d_law.at_) fd ["_law_script"] (spM (ev K) 1 [] f_law) ∧ Binds K fd ["_law_script"] [] ∧ PySem.W.keepIn K (.ref (He.fAd K d_law.at_)) = true := by
  obtain ⟨fd, F⟩ := cc.def_ 22 (d := d_law) rfl
  exact ⟨fd, bd_law X0 G0 cc F, (F.bindsN fun _ _ _ _ _ _ us hl => match us, hl with | [_], _ => rfl), F.kp⟩
end
end W

namespace W
open PySem PySem.Spec PyProof.Rows L2 Z
def m__law_grown : MS := (sSeq (sSto (m1x dLst (mCons (mFr (mCall 2 [0] f__law_take (mCons (aB 0) (mCons (aD (m1x fLen (mCons (mVar 1) (mC [])))) (mC []))))) (mC []))) 3)
  (sSeq (sFor (m1x itR1 (mCons (mVar 2) (mC []))) (gNm 4) (sSeq (sAsg (m2x dIx (mVar 1) (mRd 3 (pIx 3 (pVar 3) (mFr (mCall 2 [0] f__law_take (mCons (aB 0) (mCons (aD (m1x fLen (mCons (mLook 3) (mC [])))) (mC [])))))))) (gNm 5))
  (sIf (mTst (m2x dNe (mVar 5) (mFr (m1x dLst (mC []))))) (sSeq (sAsg (m2x dIx (mVar 5) (mFr (mCall 2 [0] f__law_take (mCons (aB 0) (mCons (aD (m1x fLen (mCons (mVar 5) (mC [])))) (mC [])))))) (gNm 6))
  (sIf (mTst (m2x dNi (mVar 6) (mLook 3))) (sDrop (mMut fApp 3 (pVar 3) (mCons (mSh (mVar 6)) (mC [])))) sNext)) sNext)))
  (sRet (m1x (mNew false gSort) (mCons (mLook 3) (mC []))))))
def f__law_grown : Fn := mkFn 7 m__law_grown
def m_group_row : MS := (sSeq (sSto (m1x (mNew true gList) (mCons (mVar 1) (mC []))) 2)
  (sSeq (sSto (m1x dLst (mC [])) 3)
  (sSeq (sWhile 100000 (mTst (m2x dGt (m1x fLen (mCons (mLook 2) (mC []))) (mC (.int 1)))) (sSeq (sAsg (mFr (mComp (mItV 2) (gNm 5) (mTst (m2x dEq (m1x fLen (mCons (mFr (mComp (m1x itL (mFr (mMeth "Yard" "neighbours" 2 [] f_Yard_neighbours (mVar 0) (mCons (aD (mVar 5)) (mC []))))) (gNm 6) (mTst (m2x dIn (mVar 6) (mLook 2))) (mVar 6) [6])) (mC []))) (mC (.int 1)))) (mVar 5) [5])) (gNm 4))
  (sSeq (sDrop (mMut fApp 3 (pVar 3) (mCons (mSh (m2x dIx (mVar 4) (mC (.int 0)))) (mC []))))
  (sDrop (mMut fRem 2 (pVar 2) (mCons (mSh (m2x dIx (mVar 4) (mC (.int 0)))) (mC [])))))))
  (sRet (m1x (dLstM false) (mStar (mSeq (mLook 3)) (mStar (mSeq (mLook 2)) (mStar (mSeq (mFr (m1N false dRevL (mLook 3)))) (mC [])))))))))
def f_group_row : Fn := mkFn 7 m_group_row
def m_Yard_size : MS := (sRet (mSh (m1x (dAtC "Yard" "kept_size") (mVar 0))))
def f_Yard_size : Fn := mkFn 1 m_Yard_size
def m_sees_odd : MS := (sSeq (sAsg (m1x fLen (mCons (mFr (mComp (m1x itL (mFr (mMeth "Yard" "neighbours" 2 [] f_Yard_neighbours (mVar 0) (mCons (aD (mVar 2)) (mC []))))) (gNm 4) (mTst (m2x dIn (mVar 4) (mVar 1))) (mVar 4) [4])) (mC []))) (gNm 3))
  (sRet (mSh (m2x dEq (m2x dMod (m2x dAdd (mVar 3) (m1x fInt (mCons (m2x dIn (mVar 2) (mFr (mMeth "Yard" "wired" 1 [] f_Yard_wired (mVar 0) (mC [])))) (mC [])))) (mC (.int 2))) (mC (.int 1))))))
def f_sees_odd : Fn := mkFn 5 m_sees_odd
def m_press : MS := (sSeq (sIf (mNot (mTst (mFr (mCall 3 [] f_sees_odd (mCons (aD (mVar 0)) (mCons (aD (mVar 1)) (mCons (aD (mVar 2)) (mC [])))))))) (sRet (m1x (mNew true gList) (mCons (mVar 1) (mC [])))) sNext)
  (sSeq (sIf (mTst (m2x dIn (mVar 2) (mVar 1))) (sRet (mComp (m1x itL (mVar 1)) (gNm 3) (mTst (m2x dNe (mVar 3) (mVar 2))) (mVar 3) [3])) sNext)
  (sRet (m1x (mNew true gSort) (mCons (mFr (m1x (dLstM true) (mStar (mSeq (mVar 1)) (mCons (mVar 2) (mC []))))) (mC []))))))
def f_press : Fn := mkFn 4 m_press
def m_follow : MS := (sSeq (sAsg (mFr (mComp (m1x itR1 (mCons (mFr (mMeth "Yard" "size" 1 [] f_Yard_size (mVar 0) (mC []))) (mC []))) (gNm 9) mYes (mFr (mMeth "Yard" "neighbours" 2 [] f_Yard_neighbours (mVar 0) (mCons (aD (mVar 9)) (mC [])))) [9])) (gNm 3))
  (sSeq (sSto (mComp (m1x itR1 (mCons (mFr (mMeth "Yard" "size" 1 [] f_Yard_size (mVar 0) (mC []))) (mC []))) (gNm 9) mYes (m2x dIn (mVar 9) (mVar 1)) [9]) 4)
  (sSeq (sAsg (mFr (mMeth "Yard" "wired" 1 [] f_Yard_wired (mVar 0) (mC []))) (gNm 5))
  (sSeq (sAsg (mFr (mComp (m1x itR1 (mCons (mFr (mMeth "Yard" "size" 1 [] f_Yard_size (mVar 0) (mC []))) (mC []))) (gNm 9) mYes (m2x dIn (mVar 9) (mVar 5)) [9])) (gNm 6))
  (sSeq (sSto (m1x dLst (mC [])) 7)
  (sSeq (sFor (m1x itEn (mCons (mVar 2) (mC []))) (gTp 2 (gsCons (gNm 8) (gsCons (gNm 9) gsNil))) (sIf (mTst (m2x dEq (m2x dMod (m2x dAdd (m1x fLen (mCons (mFr (mComp (m1x itL (m2x dIx (mVar 3) (mVar 9))) (gNm 10) (mTst (mRd 4 (pIx 4 (pVar 4) (mVar 10)))) (mVar 10) [10])) (mC []))) (m1x fInt (mCons (m2x dIx (mVar 6) (mVar 9)) (mC [])))) (mC (.int 2))) (mC (.int 1)))) (sSeq (sSetI 4 (mSh (mBl (mNot (mTst (mRd 4 (pIx 4 (pVar 4) (mVar 9))))))) (pVar 4) (mVar 9))
  (sDrop (mMut fApp 7 (pVar 7) (mCons (mSh (mVar 8)) (mC []))))) sNext))
  (sRet (m1x dTupO (mCons (mMov 7) (mCons (mComp (m1x itR1 (mCons (mFr (mMeth "Yard" "size" 1 [] f_Yard_size (mVar 0) (mC []))) (mC []))) (gNm 9) (mTst (mRd 4 (pIx 4 (pVar 4) (mVar 9)))) (mVar 9) [9]) (mC [])))))))))))
def f_follow : Fn := mkFn 11 m_follow
def m__law_odd : MS := (sRet (mSh (m2x dEq (m2x dMod (m2x dAdd (m1x fLen (mCons (mFr (mComp (m1x itL (m2x dIx (mVar 0) (mVar 3))) (gNm 4) (mTst (m2x dIn (mVar 4) (mVar 2))) (mVar 4) [4])) (mC []))) (m1x fInt (mCons (m2x dIn (mVar 3) (mVar 1)) (mC [])))) (mC (.int 2))) (mC (.int 1)))))
def f__law_odd : Fn := mkFn 5 m__law_odd
def m__law_sum : MS := (sRet (mComp (m1x itL (mFr (m1x (mNew true gSort) (mCons (mFr (m2N true dCat (mVar 0) (mVar 1))) (mC []))))) (gNm 2) (mTst (m2x dNe (m2x dIn (mVar 2) (mVar 0)) (m2x dIn (mVar 2) (mVar 1)))) (mVar 2) [2]))
def f__law_sum : Fn := mkFn 3 m__law_sum
end W
namespace Z
open PySem PySem.Spec PyProof.Rows L2
def bagO (a b c : Int) (cells : List Int) : O := .lst [.sh (.int a), .sh (.int b), .sh (.int c), .sh (.lst (cells.map .int))]
theorem atI_map {α β : Type} {f : α → β} {xs : List α} {n : Int} : atI (xs.map f) n = (atI xs n).map f := by
  unfold atI
  rw [List.length_map]
  cases ixN xs.length n with
  | none => rfl
  | some j => exact List.getElem?_map
theorem atI_ok {α : Type} {xs : List α} {n : Int} (h0 : 0 ≤ n) (h1 : n < xs.length) : ∃ x ∈ xs, atI xs n = some x := by
  have hj : n.toNat < xs.length := by omega
  refine ⟨xs[n.toNat], List.getElem_mem hj, ?_⟩
  unfold atI ixN
  rw [if_pos h0, if_pos h1]
  exact List.getElem?_eq_getElem hj
end Z
namespace W
open PySem PySem.Spec PyProof.Rows L2 Z
theorem take_ok {a b c m : Int} {cells : List Int} {Q : O → List Sl → Prop} (ha : 0 ≤ a) (hb : 0 ≤ b ∧ b < 2147483647) (hc : 0 ≤ c) (hcs : ∀ x ∈ cells, 0 ≤ x) (hm : 1 ≤ m ∧ m < 2 ^ 200)
    (k : ∀ (r a' b' c' : Int) (S : List Sl), 0 ≤ r → r < m → 0 ≤ a' → (0 ≤ b' ∧ b' < 2147483647) → 0 ≤ c' → S.getD 0 .no = .ow (bagO a' b' c' cells) → Q (.sh (.int r)) S) : wO (f__law_take [.ow (bagO a b c cells), .pl (.int m)]) Q := by
  unfold f__law_take
  rw [wO_mk]
  unfold m__law_take bagO
  simp only [s_seq, s_if, w_mTst, w_m2x, w_mRd, w_pIx, w_pVar, w_mC, s_asg, s_ret, w_mSh, w_mVar, s_setI, s_augI, w_m1x, w_mCons, s_next, w_set, w_get]
  simp [o_ow, sg0, sp0, og_nil, og_lst, op_nil, i_lst, ixN, wF_some, wF_map, l_sh, f_eq, f_gt, f_ge, f_lt, b_bl, g_nm, v_pl, f_mod, f_div, f_mul, f_add, f_len, f_ix, w_set', atI_map]
  have h1 : ∀ x : Int, 0 ≤ x % m ∧ x % m < m := fun x => ⟨Int.emod_nonneg x (by omega), Int.emod_lt_of_pos x (by omega)⟩
  have h2 : ∀ x : Int, 0 ≤ x → 0 ≤ x / m := fun x hx => Int.ediv_nonneg hx (by omega)
  have h3 : m < 2 ^ 200 := hm.2
  refine ⟨fun ha0 => ⟨fun hc1 => ?_, fun hc1 => ?_⟩, fun ha0 => ?_⟩
  · obtain ⟨x, hx, e⟩ := atI_ok hc hc1
    have hx0 := hcs x hx
    rw [e]
    simp only [wF_some]
    repeat' first
      | apply And.intro
      | intro _
    all_goals first
      | omega
      | exact k _ _ _ _ _ (h1 _).1 (h1 _).2 (by first | omega | exact h2 _ (by omega)) (by omega) (by omega) rfl
  · repeat' first
      | apply And.intro
      | intro _
    all_goals first
      | omega
      | exact k _ _ _ _ _ (h1 _).1 (h1 _).2 (by first | omega | exact h2 _ (by omega)) (by omega) (by omega) rfl
  · repeat' first
      | apply And.intro
      | intro _
    all_goals first
      | omega
      | exact k _ _ _ _ _ (h1 _).1 (h1 _).2 (by first | omega | exact h2 _ (by omega)) (by omega) (by omega) rfl
/-- the drawing of numbers goes on -/
def BagOk (o : O) : Prop := ∃ (a b c : Int) (cells : List Int), 0 ≤ a ∧ (0 ≤ b ∧ b < 2147483647) ∧ 0 ≤ c ∧ (∀ x ∈ cells, 0 ≤ x) ∧ o = bagO a b c cells
theorem c_take {S : List Sl} {j : Nat} {me : M D} {Q : O → List Sl → Prop} {B : O} (hS : S[j]? = some (.ow B))
    (h : wM me S fun d S1 => ∃ n B1, d = .int n ∧ (1 ≤ n ∧ n < 2 ^ 200) ∧ S1[j]? = some (.ow B1) ∧ BagOk B1 ∧ ∀ r B', 0 ≤ r → r < n → BagOk B' → Q (.sh (.int r)) (S1.set j (.ow B'))) :
    wM (mCall 2 [0] f__law_take (mCons (aB j) (mCons (aD me) (mC [])))) S Q := by
  rw [w_call, w_mCons, w_aB, hS]
  simp only [o_ow, w_mCons, w_aD, w_mC]
  refine wM_mono h fun d S1 ⟨n, B1, hd, hn, h1, hB, k⟩ => ?_
  subst hd
  obtain ⟨a, b, c, cells, ha, hb, hc, hcs, rfl⟩ := hB
  have e : argsOf S1 [.b j, .d (.int n)] = some [.ow (bagO a b c cells), .pl (.int n)] := by
    simp [argsOf, argOf, h1]
  unfold wC
  rw [e]
  have e2 : callOk 2 [0] [.b j, .d (.int n)] = true := by
    simp [callOk, lentAt, Z.shown]
  rw [e2]
  refine take_ok ha hb hc hcs hn fun r a' b' c' S2 h3 h4 h5 h6 h7 h8 => ⟨rfl, ?_⟩
  have e3 : backS S2 (lentAt 0 [.b j, .d (.int n)]) S1 = S1.set j (.ow (bagO a' b' c' cells)) := by
    show S1.set j (S2.getD 0 .no) = _
    rw [h8]
  rw [e3]
  exact k r _ h3 h4 ⟨a', b', c', cells, h5, h6, h7, hcs, rfl⟩
theorem c_takeP {S : List Sl} {j : Nat} {me : M D} {Q : O → List Sl → Prop} {B : O} {n : Int} (hS : S[j]? = some (.ow B)) (hm : wM me S fun d S1 => d = .int n ∧ S1 = S) (hn : 1 ≤ n ∧ n < 2 ^ 200) (hB : BagOk B) (k : ∀ r B', 0 ≤ r → r < n → BagOk B' → Q (.sh (.int r)) (S.set j (.ow B'))) :
    wM (mCall 2 [0] f__law_take (mCons (aB j) (mCons (aD me) (mC [])))) S Q :=
  c_take hS (wM_mono hm fun d S1 ⟨h1, h2⟩ => ⟨n, B, h1, hn, by rw [h2]; exact hS, hB, by rw [h2]; exact k⟩)
end W

namespace Z
open PySem PySem.Spec PyProof.Rows L2
abbrev shI (n : Int) : O := .sh (.int n)
theorem sizeLine_big : (16777216 : Nat) ≤ sizeLine := by rw [sizeLine_eq]; exact Nat.le_refl _
def wMut (f : MutF) (x : Option O) (os : List O) (P : D → List O → Prop) : Prop := match x with
  | some (.lst xs) => match f xs os with
    | some (d, xs') => P d xs'
    | none => False
  | _ => False
theorem wO_mut {f : MutF} {i : Nat} {p : List Stp} {os : List O} {S : List Sl} {Q : D → List Sl → Prop} : wO (mutL f i p os S) Q = wMut f (sget S i p) os fun d xs' => Q d (sput S i p (.lst xs')) := by
  unfold mutL wMut
  cases sget S i p with
  | none => rfl
  | some x =>
    cases x with
    | lst xs =>
      simp only
      cases f xs os with
      | none => rfl
      | some q => rfl
    | _ => rfl
theorem w_mut {f : MutF} {i : Nat} {mp : M (List Stp)} {ma : M (List O)} {S : List Sl} {Q : D → List Sl → Prop} : wM (mMut f i mp ma) S Q = wM mp S fun p S1 => isLstO (sget S1 i p) = true ∧ wM ma S1 fun os S2 => wMut f (sget S2 i p) os fun d xs' => Q d (sput S2 i p (.lst xs')) := by
  unfold wM mMut
  rw [wO_bd]
  congr
  funext p S1
  cases isLstO (sget S1 i p) with
  | false => simp [wO]
  | true => simp only [wO_bd, wO_mut, true_and]
theorem m_app {xs : List O} {o : O} {P : D → List O → Prop} : wMut fApp (some (.lst xs)) [o] P = (xs.length < sizeLine ∧ P .non (xs ++ [o])) := by
  unfold wMut fApp
  by_cases h : xs.length < sizeLine
  · simp [h]
  · simp [h]
theorem f_lst {ds : List D} {P : O → Prop} : wF (dLst ds) P = (ds.length ≤ sizeLine ∧ P (.lst (ds.map .sh))) := by
  unfold dLst wF
  by_cases h : ds.length ≤ sizeLine <;> simp [h]
theorem f_r1 {j : Int} {P : List D → Prop} : wF (itR1 [.int j]) P = ((-(2 ^ 62) ≤ j ∧ j < 2 ^ 62) ∧ P (rangeD 0 j.toNat)) := by
  by_cases h : -(2 ^ 62) ≤ j ∧ j < 2 ^ 62
  · have e : itR1 [.int j] = some (rangeD 0 j.toNat) := by unfold itR1; simp only [decide_eq_true h]
    rw [e]; simp only [h, and_self, true_and, wF]
  · have e : itR1 [.int j] = none := by unfold itR1; simp only [decide_eq_false h]
    rw [e]; simp only [h, false_and, wF]
theorem f_r2 {i j : Int} {P : List D → Prop} : wF (itR2 [.int i, .int j]) P = ((-(2 ^ 62) ≤ i ∧ i < 2 ^ 62 ∧ -(2 ^ 62) ≤ j ∧ j < 2 ^ 62) ∧ P (rangeD i (j - i).toNat)) := by
  by_cases h : -(2 ^ 62) ≤ i ∧ i < 2 ^ 62 ∧ -(2 ^ 62) ≤ j ∧ j < 2 ^ 62
  · have e : itR2 [.int i, .int j] = some (rangeD i (j - i).toNat) := by unfold itR2; simp only [decide_eq_true h]
    rw [e]; simp only [h, and_self, true_and, wF]
  · have e : itR2 [.int i, .int j] = none := by unfold itR2; simp only [decide_eq_false h]
    rw [e]; simp only [h, false_and, wF]
theorem f_max2 {i j : Int} {P : D → Prop} : wF (fMax2 [.int i, .int j]) P = P (.int (if j > i then j else i)) := propext Iff.rfl
theorem f_min2 {i j : Int} {P : D → Prop} : wF (fMin2 [.int i, .int j]) P = P (.int (if j < i then j else i)) := propext Iff.rfl
theorem f_intb {b : Bool} {P : D → Prop} : wF (fInt [.bl b]) P = P (.int (if b then 1 else 0)) := propext Iff.rfl
theorem w_mMov {i : Nat} {S : List Sl} {Q : O → List Sl → Prop} : wM (mMov i) S Q = match S[i]? with
  | some (.ow o) => Q o (S.set i .no)
  | some (.pl d) => Q (.sh d) S
  | _ => False := by
  unfold wM mMov
  cases S[i]? with
  | none => rfl
  | some s => cases s <;> rfl
end Z
namespace W
open PySem PySem.Spec PyProof.Rows L2 Z
/-- the parents: each ahead of its child -/
def ParOk (ps : List Int) : Prop := ∀ (i : Nat) (x : Int), ps[i]? = some x → 0 ≤ x ∧ x ≤ i
theorem ParOk.snoc {ps : List Int} {x : Int} (h : ParOk ps) (h0 : 0 ≤ x) (h1 : x ≤ ps.length) : ParOk (ps ++ [x]) := fun i y e => by
  by_cases hi : i < ps.length
  · rw [List.getElem?_append_left hi] at e
    exact h i y e
  · rw [List.getElem?_append_right (by omega)] at e
    have : i - ps.length = 0 := by
      have := (List.getElem?_eq_some_iff.mp e).1
      simp at this
      omega
    rw [this] at e
    cases e
    omega
def parI (size way core : Int) (i : Nat) (S : List Sl) : Prop := ∃ B ps x, S = [.ow B, .pl (.int size), .pl (.int way), .pl (.int core), .ow (.lst (ps.map shI)), x] ∧ BagOk B ∧ ps.length = i ∧ ParOk ps
theorem parI_next {size way core : Int} {i : Nat} {B : O} {ps : List Int} {y : Int} {x : Sl} (hB : BagOk B) (hl : ps.length = i) (hp : ParOk ps) (h0 : 0 ≤ y) (h1 : y ≤ i) : parI size way core (i + 1) [.ow B, .pl (.int size), .pl (.int way), .pl (.int core), .ow (.lst (ps.map shI ++ [shI y])), x] :=
  ⟨B, ps ++ [y], x, by rw [List.map_append]; rfl, hB, by rw [List.length_append, hl]; rfl, hp.snoc h0 (by rw [hl]; exact h1)⟩
theorem parents_ok {B : O} {size : Int} {Q : O → List Sl → Prop} (hB : BagOk B) (hs : 1 ≤ size ∧ size ≤ 60) (k : ∀ (ps : List Int) (B' : O) (S : List Sl), ps.length = size.toNat - 1 → ParOk ps → BagOk B' → S.getD 0 .no = .ow B' → Q (.lst (ps.map shI)) S) :
    wO (f__law_parents [.ow B, .pl (.int size)]) Q := by
  unfold f__law_parents
  rw [wO_mk]
  unfold m__law_parents
  simp only [s_seq, s_asg, w_mFr]
  refine c_take rfl ?_
  refine ⟨6, B, rfl, by omega, rfl, hB, fun way B1 hw0 hw1 hB1 => ?_⟩
  simp only [s_seq, s_asg, w_mFr, w_m2x, w_mC, g_nm, wF_some, fr]
  refine c_take rfl ?_
  rw [w_mVar]
  refine ⟨size, B1, rfl, by omega, rfl, hB1, fun core B2 hc0 hc1 hB2 => ?_⟩
  simp [w_mC, g_nm, wF_some, fr, f_add, s_sto, w_m1x, f_lst, slOf, s_for, w_mCons, w_mVar, v_pl, f_r2, s_seq, s_ret, w_mMov]
  refine ⟨by omega, ?_⟩
  refine for_inv (parI size way (1 + core)) ⟨B2, [], .no, rfl, hB2, rfl, fun i x e => by cases e⟩ ?_ ?_
  · rintro i d S hd ⟨B3, ps, x, rfl, hB3, hl, hp⟩
    have hi : i < size.toNat - 1 := by
      have := (List.getElem?_eq_some_iff.mp hd).1
      rwa [rangeD_len] at this
    rw [rangeD_at hi] at hd
    cases hd
    have hsz : ps.length < sizeLine := Nat.lt_of_lt_of_le (by omega) sizeLine_big
    have h5 : (5 : Nat) ≤ sizeLine := Nat.le_trans (by omega) sizeLine_big
    have h2 : (2 : Nat) ≤ sizeLine := Nat.le_trans (by omega) sizeLine_big
    simp only [g_nm, wF_some, s_if, w_mTst, w_m2x, w_mVar, w_mC, s_drop, w_mut, w_pVar, w_mCons, w_mSh, w_mAnd, w_mFr, w_m1x]
    simp [v_pl, f_eq, b_bl, o_ow, sg4, sp4, og_nil, isLstO, f_sub, m_app, f_add, op_nil, f_lt, hsz, f_lst, h5, h2, fr, frL, f_ix]
    refine ⟨fun _ => parI_next hB3 hl hp (by omega) (by omega), fun _ => ⟨fun _ => parI_next hB3 hl hp (by omega) (by omega), fun _ => ⟨fun _ => ?_, fun _ => ⟨fun _ => ⟨fun h6 => ?_, fun h6 => ?_⟩, fun _ => ⟨fun _ => ?_, fun _ => ?_⟩⟩⟩⟩⟩
    · refine c_take rfl ⟨2, B3, rfl, by omega, rfl, hB3, fun r B4 h0 h1 hB4 => ?_⟩
      have hr : r = 0 ∨ r = 1 := by omega
      by_cases hk : (i : Int) < core <;> rcases hr with rfl | rfl <;> simp [fr, f_ix, atI, ixN, wF_some, v_pl, f_sub, f_lt, f_intb, sg4, sp4, og_nil, m_app, op_nil, hsz, hk] <;> exact parI_next hB4 hl hp (by omega) (by omega)
    · have h5' : i = 0 ∨ i = 1 ∨ i = 2 ∨ i = 3 ∨ i = 4 := by omega
      rcases h5' with rfl | rfl | rfl | rfl | rfl <;> simp [atI, ixN, wF_some] <;> exact parI_next hB3 hl hp (by omega) (by omega)
    · refine ⟨fun h => by omega, fun _ => ?_⟩
      refine c_take rfl ?_
      rw [w_mVar]
      refine ⟨1 + i, B3, rfl, by omega, rfl, hB3, fun r B4 h0 h1 hB4 => ?_⟩
      simp [sg4, sp4, og_nil, m_app, op_nil, hsz]
      exact parI_next hB4 hl hp (by omega) (by omega)
    · refine c_take rfl ⟨2, B3, rfl, by omega, rfl, hB3, fun r B4 h0 h1 hB4 => ?_⟩
      simp [fr, f_sub, f_max2, sg4, sp4, og_nil, m_app, op_nil, hsz]
      refine parI_next hB4 hl hp ?_ ?_ <;> split <;> omega
    · refine c_take rfl ?_
      rw [w_mVar]
      refine ⟨1 + i, B3, rfl, by omega, rfl, hB3, fun r B4 h0 h1 hB4 => ?_⟩
      simp [sg4, sp4, og_nil, m_app, op_nil, hsz]
      exact parI_next hB4 hl hp (by omega) (by omega)
  · rintro S ⟨B3, ps, x, rfl, hB3, hl, hp⟩
    simp
    refine k ps B3 _ ?_ hp hB3 rfl
    rw [hl, rangeD_len]
end W

namespace Z
open PySem PySem.Spec PyProof.Rows L2
theorem f_sortI {ns : List Int} {P : O → Prop} : wF (mNew true gSort [.lst (ns.map D.int)]) P = P (.lst ((srtI ns).map shI)) := by
  have e : gSort [.lst (ns.map D.int)] = some ((srtI ns).map D.int) := by
    simp only [gSort, lstD, Option.bind_some, intsD_map]
  unfold mNew
  rw [e, Option.bind_some]
  show P (.lst (((srtI ns).map D.int).map O.sh)) = _
  rw [List.map_map]
  rfl
theorem f_sortP {ps : List (Int × Int)} {P : O → Prop} (h : ps ≠ []) : wF (mNew true gSort [.lst (ps.map pairD)]) P = P (.lst (((srtP ps).map pairD).map O.sh)) := by
  have e : gSort [.lst (ps.map pairD)] = some ((srtP ps).map pairD) := by
    have e1 : intsD (ps.map pairD) = none := by
      cases ps with
      | nil => exact absurd rfl h
      | cons p ps => rfl
    simp only [gSort, lstD, Option.bind_some, e1, pairsD_map]
  unfold mNew
  rw [e, Option.bind_some]
  rfl
theorem f_sortQ {ps : List (Int × Int)} {P : O → Prop} : wF (mNew true gSort [.lst (ps.map pairD)]) P = P (.lst (((srtP ps).map pairD).map O.sh)) := by
  by_cases h : ps = []
  · subst h
    have e1 : srtP [] = [] := (srtP_perm []).eq_nil
    have e2 := f_sortI (ns := []) (P := P)
    have e3 : srtI [] = [] := (srtI_perm []).eq_nil
    rw [e3] at e2
    rw [e1]
    exact e2
  · exact f_sortP h
theorem srtI_two (x y : Int) : srtI [x, y] = if x ≤ y then [x, y] else [y, x] := by
  symm
  apply srtI_uniq
  · split
    · exact List.Perm.refl _
    · exact List.Perm.swap _ _ _
  · split
    · rename_i h; simp [h]
    · rename_i h; simp; omega
theorem m_ins {xs : List O} {n : Int} {o : O} {P : D → List O → Prop} : wMut fIns (some (.lst xs)) [.sh (.int n), o] P = ((xs.length < sizeLine ∧ 0 ≤ n ∧ n < 2 ^ 63) ∧ P .non (xs.take n.toNat ++ o :: xs.drop n.toNat)) := by
  unfold wMut fIns
  by_cases h : xs.length < sizeLine ∧ 0 ≤ n ∧ n < 2 ^ 63
  · simp only [decide_eq_true h]
    simp only [h, and_self, true_and]
  · simp only [decide_eq_false h]
    simp only [h, false_and]
theorem f_tup {ds : List D} {P : O → Prop} : wF (dTup ds) P = (ds.length ≤ sizeLine ∧ P (.tup (ds.map .sh))) := by
  unfold dTup wF
  by_cases h : ds.length ≤ sizeLine <;> simp [h]
theorem f_neg {n : Int} {P : D → Prop} : wF (dNeg (.int n)) P = P (.int (-n)) := propext Iff.rfl
theorem w_m2N {md : Bool} {f : D → D → Option (List D)} {a b : M D} {S : List Sl} {Q : O → List Sl → Prop} : wM (m2N md f a b) S Q = wM a S fun x S1 => wM b S1 fun y S2 => wF (f x y) fun z => wF (mkL md z) fun o => Q o S2 := by
  unfold m2N
  rw [w_m2x]
  congr
  funext x S1
  congr
  funext y S2
  cases f x y <;> rfl
theorem w_m1N {md : Bool} {f : D → Option (List D)} {a : M D} {S : List Sl} {Q : O → List Sl → Prop} : wM (m1N md f a) S Q = wM a S fun x S1 => wF (f x) fun z => wF (mkL md z) fun o => Q o S1 := by
  unfold m1N
  rw [w_m1x]
  congr
  funext x S1
  cases f x <;> rfl
theorem f_mkT {ds : List D} {P : O → Prop} : wF (mkL true ds) P = P (.lst (ds.map .sh)) := propext Iff.rfl
theorem f_step1 {ds : List D} {P : List D → Prop} : wF (dStep (.lst ds) (.int 1)) P = P ds := propext Iff.rfl
theorem f_stepm {ds : List D} {P : List D → Prop} : wF (dStep (.lst ds) (.int (-1))) P = P ds.reverse := propext Iff.rfl
theorem w_mUse {i : Nat} {S : List Sl} {Q : D → List Sl → Prop} : wM (mUse i) S Q = match S[i]? with
  | some (.pl d) => Q d S
  | some (.ow o) => Q (fr o) (S.set i (.pl (fr o)))
  | _ => False := by
  unfold wM mUse
  cases S[i]? with
  | none => rfl
  | some s => cases s <;> rfl
theorem ixN_ok {n : Nat} {k : Int} (h0 : 0 ≤ k) (h1 : k < n) : ixN n k = some k.toNat := by
  unfold ixN
  rw [if_pos h0, if_pos h1]
end Z
namespace W
open PySem PySem.Spec PyProof.Rows L2 Z
def upto (n : Nat) : List Int := (List.range n).map fun i : Nat => (i : Int)
def tieAt (order ps : List Int) (k : Nat) : Int × Int :=
  let a := order.getD (k + 1) 0
  let b := order.getD (ps.getD k 0).toNat 0
  if a ≤ b then (a, b) else (b, a)
def mkTies (order ps : List Int) (n : Nat) : List (Int × Int) := (List.range n).map (tieAt order ps)
/-- a tree's ties in any order -/
def TreeOk (n : Nat) (ts : List (Int × Int)) : Prop := ∃ order ps : List Int, order.Perm (upto n) ∧ ps.length = n - 1 ∧ ParOk ps ∧ ts.Perm (mkTies order ps (n - 1))
def ordI (size : Int) (ps : List Int) (mixed : Bool) (i : Nat) (S : List Sl) : Prop := ∃ (B : O) (order : List Int) (x : Sl), S = [.ow B, .pl (.int size), .pl (.lst (ps.map D.int)), .ow (.lst (order.map shI)), .pl (.bl mixed), x, .no, .no] ∧ BagOk B ∧ order.Perm (upto i)
theorem upto_succ (i : Nat) : upto (i + 1) = upto i ++ [(i : Int)] := by
  unfold upto
  rw [List.range_succ, List.map_append]
  rfl
theorem upto_len (i : Nat) : (upto i).length = i := by
  unfold upto
  rw [List.length_map, List.length_range]
def tupO (q : Int × Int) : O := .tup [shI q.1, shI q.2]
theorem fr_tups : ∀ ts : List (Int × Int), frL (ts.map tupO) = ts.map Z.pairD
  | [] => rfl
  | t :: ts => by
    show fr (tupO t) :: frL (ts.map tupO) = _
    rw [fr_tups ts]
    rfl
def tieI (size : Int) (ps order : List Int) (mixed : Bool) (i : Nat) (S : List Sl) : Prop := ∃ B x y, S = [.ow B, .pl (.int size), .pl (.lst (ps.map D.int)), .ow (.lst (order.map shI)), .pl (.bl mixed), x, .ow (.lst ((mkTies order ps i).map tupO)), y] ∧ BagOk B
theorem map_sh_int (ns : List Int) : frL (ns.map shI) = ns.map D.int := by
  have : ns.map shI = (ns.map D.int).map O.sh := by rw [List.map_map]; rfl
  rw [this, frL_sh]
theorem c_parents {S : List Sl} {j : Nat} {me : M D} {Q : O → List Sl → Prop} {B : O} (hS : S[j]? = some (.ow B))
    (h : wM me S fun d S1 => ∃ n B1, d = .int n ∧ (1 ≤ n ∧ n ≤ 60) ∧ S1[j]? = some (.ow B1) ∧ BagOk B1 ∧ ∀ (ps : List Int) B', ps.length = n.toNat - 1 → ParOk ps → BagOk B' → Q (.lst (ps.map shI)) (S1.set j (.ow B'))) :
    wM (mCall 2 [0] f__law_parents (mCons (aB j) (mCons (aD me) (mC [])))) S Q := by
  rw [w_call, w_mCons, w_aB, hS]
  simp only [o_ow, w_mCons, w_aD, w_mC]
  refine wM_mono h fun d S1 ⟨n, B1, hd, hn, h1, hB, k⟩ => ?_
  subst hd
  have e : argsOf S1 [.b j, .d (.int n)] = some [.ow B1, .pl (.int n)] := by
    simp [argsOf, argOf, h1]
  unfold wC
  rw [e]
  have e2 : callOk 2 [0] [.b j, .d (.int n)] = true := by
    simp [callOk, lentAt, Z.shown]
  rw [e2]
  refine parents_ok hB hn fun ps B' S2 h3 h4 h5 h8 => ⟨rfl, ?_⟩
  have e3 : backS S2 (lentAt 0 [.b j, .d (.int n)]) S1 = S1.set j (.ow B') := by
    show S1.set j (S2.getD 0 .no) = _
    rw [h8]
  rw [e3]
  exact k ps B' h3 h4 h5
theorem ties_ok {B : O} {size : Int} {Q : O → List Sl → Prop} (hB : BagOk B) (hs : 1 ≤ size ∧ size ≤ 60) (k : ∀ (ts : List (Int × Int)) (B' : O) (S : List Sl), TreeOk size.toNat ts → BagOk B' → S.getD 0 .no = .ow B' → Q (.lst ((ts.map Z.pairD).map .sh)) S) :
    wO (f__law_ties [.ow B, .pl (.int size)]) Q := by
  have hsL : (60 : Nat) < sizeLine := Nat.lt_of_lt_of_le (by omega) sizeLine_big
  unfold f__law_ties
  rw [wO_mk]
  unfold m__law_ties
  simp only [s_seq, s_asg, w_mFr]
  refine c_parents rfl ?_
  rw [w_mVar]
  refine ⟨size, B, rfl, hs, rfl, hB, fun ps B1 hpl hp hB1 => ?_⟩
  simp only [g_nm, wF_some, fr, map_sh_int]
  simp [s_seq, s_sto, w_m1x, w_mC, f_lst, slOf, s_asg, w_m2x, w_mFr]
  refine c_take rfl ⟨3, B1, rfl, by omega, rfl, hB1, fun mx B2 h0 h1 hB2 => ?_⟩
  simp [w_mC, fr, f_gt, g_nm, wF_some, s_for, w_m1x, w_mCons, w_mVar, v_pl, f_r1]
  refine ⟨by omega, ?_⟩
  refine for_inv (ordI size ps (decide (0 < mx))) ⟨B2, [], .no, rfl, hB2, .refl _⟩ ?_ ?_
  · rintro i d S hd ⟨B3, order, x, rfl, hB3, ho⟩
    have hi : i < size.toNat := by
      have := (List.getElem?_eq_some_iff.mp hd).1
      rwa [rangeD_len] at this
    rw [rangeD_at hi] at hd
    cases hd
    have hol : order.length = i := by rw [ho.length_eq, upto_len]
    simp only [g_nm, wF_some, s_drop, w_mut, w_pVar, w_mCons, w_mSh, w_m2x, w_mFr, w_m1x, w_mVar]
    simp [v_pl, o_ow, sg3, og_nil, isLstO]
    refine c_takeP (n := i + 1) rfl (by simp [w_m2x, w_mVar, w_mC, v_pl, f_add]) (by omega) hB3 fun r B4 h0 h1 hB4 => ?_
    have h2 : (2 : Nat) ≤ sizeLine := by omega
    have hL : order.length < sizeLine := by omega
    by_cases hm : 0 < mx
    · simp [w_mC, fr, frL, f_lst, h2, v_pl, f_intb, hm, f_ix, atI, ixN, wF_some, sg3, og_nil, m_ins, hL, sp3, op_nil]
      refine ⟨by omega, B4, order.take r.toNat ++ (i : Int) :: order.drop r.toNat, .pl (.int i), ?_, hB4, ?_⟩
      · simp [hm]
      · rw [upto_succ]
        refine List.perm_middle.trans ?_
        rw [List.take_append_drop]
        exact (List.Perm.cons _ ho).trans (List.perm_append_singleton _ _).symm
    · simp [w_mC, fr, frL, f_lst, h2, v_pl, f_intb, hm, f_ix, atI, ixN, wF_some, sg3, og_nil, m_ins, hL, sp3, op_nil]
      refine ⟨by omega, B4, order.take i ++ (i : Int) :: order.drop i, .pl (.int i), ?_, hB4, ?_⟩
      · simp [hm]
      · rw [upto_succ]
        refine List.perm_middle.trans ?_
        rw [List.take_append_drop]
        exact (List.Perm.cons _ ho).trans (List.perm_append_singleton _ _).symm
  · rintro S ⟨B3, order, x, rfl, hB3, ho⟩
    rw [rangeD_len] at ho
    have hol : order.length = size.toNat := by rw [ho.length_eq, upto_len]
    have h2 : (2 : Nat) ≤ sizeLine := by omega
    simp [s_seq, s_sto, w_m1x, w_mC, f_lst, slOf, s_for, w_mCons, w_mVar, v_pl, f_r2]
    refine ⟨by omega, ?_⟩
    refine for_inv (tieI size ps order (decide (0 < mx))) ⟨B3, x, .no, rfl, hB3⟩ ?_ ?_
    · rintro i d S hd ⟨B4, x, y, rfl, hB4⟩
      have hi : i < size.toNat - 1 := by
        have := (List.getElem?_eq_some_iff.mp hd).1
        rwa [rangeD_len] at this
      rw [rangeD_at hi] at hd
      cases hd
      have hpi : i < ps.length := by omega
      have hpv := hp i ps[i] (List.getElem?_eq_getElem hpi)
      have hk1 : i + 1 < order.length := by omega
      have hk2 : ps[i].toNat < order.length := by omega
      have hm : (mkTies order ps i).length < sizeLine := by unfold mkTies; rw [List.length_map, List.length_range]; omega
      have e1 : atI ps (1 + (i : Int) - 1) = some ps[i] := by
        unfold atI
        rw [ixN_ok (by omega) (by omega), Option.bind_some, show (1 + (i : Int) - 1).toNat = i by omega]
        exact List.getElem?_eq_getElem hpi
      have e2 : ixN order.length (1 + (i : Int)) = some (i + 1) := by
        rw [ixN_ok (by omega) (by omega)]
        congr 1
        omega
      have e3 : ixN order.length ps[i] = some ps[i].toNat := ixN_ok hpv.1 (by omega)
      simp only [g_nm, wF_some, s_seq, s_asg, w_mFr, w_m1x, w_mCons, w_mRd, w_pIx, w_pVar, w_mVar, w_m2x, w_mC, s_drop, w_mut]
      simp [v_pl, o_ow, sg3, og_nil, og_lst, i_lst, e2, wF_some, hk1, l_sh, f_sub, f_ix, atI_map, wF_map, e1, e3, hk2, f_lst, h2, fr, frL]
      show wF (mNew true gSort [D.lst ([order[i + 1], order[ps[i].toNat]].map D.int)]) _
      rw [f_sortI, srtI_two]
      have next : ∀ z, tieI size ps order (decide (0 < mx)) (i + 1) [Sl.ow B4, Sl.pl (D.int size), Sl.pl (D.lst (List.map D.int ps)), Sl.ow (O.lst (List.map shI order)), Sl.pl (D.bl (decide (0 < mx))), Sl.pl (D.int (1 + ↑i)), Sl.ow (O.lst (List.map tupO (mkTies order ps i) ++ [tupO (tieAt order ps i)])), z] := fun z =>
        ⟨B4, .pl (.int (1 + i)), z, by unfold mkTies; rw [List.range_succ, List.map_append, List.map_append]; rfl, hB4⟩
      have ta : tieAt order ps i = if order[i + 1] ≤ order[ps[i].toNat] then (order[i + 1], order[ps[i].toNat]) else (order[ps[i].toNat], order[i + 1]) := by
        unfold tieAt
        simp [List.getD_eq_getElem?_getD, List.getElem?_eq_getElem hk1, List.getElem?_eq_getElem hpi, List.getElem?_eq_getElem hk2]
      by_cases hab : order[i + 1] ≤ order[ps[i].toNat]
      · rw [if_pos hab]
        rw [if_pos hab] at ta
        simp [fr, frL, sg6, og_nil, isLstO, f_ix, atI, ixN, wF_some, f_tup, h2, m_app, hm, sp6, op_nil]
        have := next (.pl (.lst [.int order[i + 1], .int order[ps[i].toNat]]))
        rw [ta] at this
        exact this
      · rw [if_neg hab]
        rw [if_neg hab] at ta
        simp [fr, frL, sg6, og_nil, isLstO, f_ix, atI, ixN, wF_some, f_tup, h2, m_app, hm, sp6, op_nil]
        have := next (.pl (.lst [.int order[ps[i].toNat], .int order[i + 1]]))
        rw [ta] at this
        exact this
    · rintro S ⟨B4, x, y, rfl, hB4⟩
      rw [rangeD_len]
      have tree : TreeOk size.toNat (mkTies order ps (size.toNat - 1)) := ⟨order, ps, ho, hpl, hp, .refl _⟩
      simp only [s_ret, w_m2N, w_mFr, w_m1x, w_mCons, w_mUse, w_mC, w_m2x]
      simp
      have e0 : fr (O.lst (List.map tupO (mkTies order ps (size.toNat - 1)))) = .lst ((mkTies order ps (size.toNat - 1)).map Z.pairD) := by
        show D.lst (frL _) = _
        rw [fr_tups]
      rw [e0, f_sortQ]
      simp only [f_neg, f_lst]
      refine ⟨h2, c_takeP (n := 2) rfl ⟨rfl, rfl⟩ (by omega) hB4 fun r B5 h0 h1 hB5 => ?_⟩
      have hr : r = 0 ∨ r = 1 := by omega
      have e1 : fr (O.lst (((srtP (mkTies order ps (size.toNat - 1))).map Z.pairD).map O.sh)) = .lst ((srtP (mkTies order ps (size.toNat - 1))).map Z.pairD) := by
        show D.lst (frL _) = _
        rw [frL_sh]
      rcases hr with rfl | rfl
      · rw [e1]
        simp [fr, frL, f_ix, atI, ixN, wF_some, f_step1, f_mkT]
        have := k _ B5 [Sl.ow B5, Sl.pl (D.int size), Sl.pl (D.lst (List.map D.int ps)), Sl.ow (O.lst (List.map shI order)), Sl.pl (D.bl (decide (0 < mx))), x, .pl (.lst ((mkTies order ps (size.toNat - 1)).map Z.pairD)), y] ⟨order, ps, ho, hpl, hp, srtP_perm _⟩ hB5 rfl
        simpa using this
      · rw [e1]
        simp [fr, frL, f_ix, atI, ixN, wF_some, f_stepm, f_mkT]
        have := k _ B5 [Sl.ow B5, Sl.pl (D.int size), Sl.pl (D.lst (List.map D.int ps)), Sl.ow (O.lst (List.map shI order)), Sl.pl (D.bl (decide (0 < mx))), x, .pl (.lst ((mkTies order ps (size.toNat - 1)).map Z.pairD)), y] ⟨order, ps, ho, hpl, hp, (List.reverse_perm _).trans (srtP_perm _)⟩ hB5 rfl
        simpa using this
end W

namespace Z
open PySem PySem.Spec PyProof.Rows L2
theorem w_compO0 {mi : M (List D)} {g : Tg} {t : M Bool} {e : M O} {vs : List Nat} {S : List Sl} {Q : O → List Sl → Prop} : wM (mCompO mi g t e vs) S Q = wM mi S fun ds S1 => (ds.length ≤ 16777216 ∧ (vs.all fun v => notOw S1[v]?) = true) ∧ wO (cmpGoO g t e vs ds (wipeS S1 vs)) fun xs S2 => Q (.lst xs) (restS S1 S2 vs) := by
  unfold wM mCompO
  rw [wO_bd]
  congr
  funext ds S1
  by_cases h : ds.length ≤ 16777216
  · cases h2 : vs.all fun v => notOw S1[v]? with
    | true =>
      have hd := decide_eq_true h
      rw [hd]
      show wO (Out.bn _ _) Q = _
      rw [wO_bn]
      simp only [h, true_and]
      rfl
    | false => simp [h, wO]
  · simp [h, wO]
theorem compO_pure {g : Tg} {t : M Bool} {e : M O} {vs : List Nat} {S : List Sl} (f : D → O) : ∀ (ds : List D) (Q : List O → List Sl → Prop), (∀ d ∈ ds, wF (g d S) fun S1 => wM t S1 fun b S2 => b = true ∧ wM e S2 fun x S3 => x = f d ∧ wipeS S3 vs = S) → Q (ds.map f) S → wO (cmpGoO g t e vs ds S) Q
  | [], Q, _, en => en
  | d :: ds, Q, st, en => by
    have h1 := st d List.mem_cons_self
    unfold cmpGoO
    cases hg : g d S with
    | none => rw [hg] at h1; exact h1
    | some S1 =>
      rw [hg] at h1
      simp only [wO_bn]
      refine wO_mono (show wO (t S1) _ from h1) fun b S2 ⟨h2, h3⟩ => ?_
      subst h2
      simp only [wO_bn]
      refine wO_mono (show wO (e S2) _ from h3) fun x S3 ⟨h4, h5⟩ => ?_
      rw [h5, h4]
      exact compO_pure f ds _ (fun d' hd' => st d' (List.mem_cons_of_mem _ hd')) en
theorem isL_lst {os : List O} : isLstO (some (.lst os)) = true := rfl
theorem w_mYes {S : List Sl} {Q : Bool → List Sl → Prop} : wM mYes S Q = Q true S := propext Iff.rfl
theorem f_itL {ds : List D} {P : List D → Prop} : wF (itL (.lst ds)) P = P ds := propext Iff.rfl
theorem f_tp {n : Nat} {ds : List D} {r : Tgs} {S : List Sl} {P : List Sl → Prop} : wF (gTp n r (.tup ds) S) P = (ds.length = n ∧ wF (r ds S) P) := by
  unfold gTp
  by_cases h : ds.length = n
  · simp [h]
  · simp [h, wF]
theorem g_cons {g : Tg} {r : Tgs} {d : D} {ds : List D} {S : List Sl} {P : List Sl → Prop} : wF (gsCons g r (d :: ds) S) P = wF (g d S) fun S1 => wF (r ds S1) P := by
  show wF (match g d S with | some S1 => r ds S1 | none => none) P = _
  cases g d S <;> rfl
theorem g_nil {S : List Sl} {P : List Sl → Prop} : wF (gsNil [] S) P = P S := propext Iff.rfl
theorem op_lst {os : List O} {j : Nat} {p : List Stp} {n o : O} (h : os[j]? = some o) : oput (.lst os) (.ix j :: p) n = .lst (os.set j (oput o p n)) := by
  show (match os[j]? with | some o' => okids (.lst os) (os.set j (oput o' p n)) | none => .lst os) = _
  rw [h]
  rfl
def rowsO (n : Nat) (R : Nat → List Int) : List O := (List.range n).map fun v => O.lst ((R v).map shI)
def addR (R : Nat → List Int) (j : Nat) (y : Int) : Nat → List Int := fun v => if v = j then R v ++ [y] else R v
theorem rows_at {n : Nat} {R : Nat → List Int} {j : Nat} (h : j < n) : (rowsO n R)[j]? = some (.lst ((R j).map shI)) := by
  unfold rowsO
  rw [List.getElem?_map, List.getElem?_range h]
  rfl
theorem rows_len {n : Nat} {R : Nat → List Int} : (rowsO n R).length = n := by
  unfold rowsO
  rw [List.length_map, List.length_range]
theorem rows_set {n : Nat} {R : Nat → List Int} {j : Nat} {y : Int} : (rowsO n R).set j (.lst ((R j).map shI ++ [shI y])) = rowsO n (addR R j y) := by
  apply List.ext_getElem?
  intro i
  by_cases hi : i < n
  · by_cases hj : i = j
    · subst hj
      rw [List.getElem?_set_self (by rw [rows_len]; exact hi), rows_at hi]
      unfold addR
      rw [if_pos rfl, List.map_append]
      rfl
    · rw [List.getElem?_set_ne (Ne.symm hj), rows_at hi, rows_at hi]
      unfold addR
      rw [if_neg hj]
  · rw [List.getElem?_eq_none (by rw [List.length_set, rows_len]; omega), List.getElem?_eq_none (by rw [rows_len]; omega)]
theorem rows_put {n : Nat} {R : Nat → List Int} {j : Nat} {y : Int} (h : j < n) : oput (.lst (rowsO n R)) [.ix j] (.lst ((R j).map shI ++ [shI y])) = .lst (rowsO n (addR R j y)) := by
  rw [op_lst (rows_at h), op_nil, rows_set]
theorem fr_rows : ∀ (n : Nat) (R : Nat → List Int), frL (rowsO n R) = (List.range n).map fun v => D.lst ((R v).map .int) := fun n R => by
  rw [frL_map]
  unfold rowsO
  rw [List.map_map]
  apply List.map_congr_left
  intro v _
  show D.lst (frL ((R v).map shI)) = _
  rw [frL_map, List.map_map]
  rfl
end Z
namespace W
open PySem PySem.Spec PyProof.Rows L2 Z
/-- what a post is tied to, in the ties' order -/
def nbrs (ts : List (Int × Int)) (v : Nat) : List Int := ts.flatMap fun t => if t.1 = (v : Int) then [t.2] else if t.2 = (v : Int) then [t.1] else []
def nearL (n : Nat) (ts : List (Int × Int)) : List (List Int) := (List.range n).map fun v => srtI (nbrs (srtP ts) v)
def rowD (r : List Int) : D := .lst (r.map .int)
def nearI (size : Int) (n : Nat) (ts : List (Int × Int)) (i : Nat) (S : List Sl) : Prop := ∃ x y, S = [.pl (.int size), .pl (.lst (ts.map Z.pairD)), .ow (.lst (rowsO n (nbrs ((srtP ts).take i)))), x, y, .no, .no]
theorem nbrs_snoc {ts : List (Int × Int)} {t : Int × Int} {a b : Nat} (ha : t.1 = a) (hb : t.2 = b) (hne : a ≠ b) : nbrs (ts ++ [t]) = addR (addR (nbrs ts) a t.2) b t.1 := by
  funext v
  unfold nbrs addR
  rw [List.flatMap_append]
  simp only [List.flatMap_cons, List.flatMap_nil, List.append_nil]
  by_cases h1 : v = a
  · have h2 : v ≠ b := fun z => hne (h1.symm.trans z)
    have : t.1 = (v : Int) := by omega
    simp [h1, this, hne, ha]
  · by_cases h2 : v = b
    · have e1 : ¬ t.1 = (v : Int) := by omega
      have e2 : t.2 = (v : Int) := by omega
      have e3 : ¬ ((a : Int) = (b : Int)) := by omega
      simp [h1, h2, e1, e2, e3, hb, ha, Ne.symm hne]
    · have e1 : ¬ t.1 = (v : Int) := by omega
      have e2 : ¬ t.2 = (v : Int) := by omega
      simp [h1, h2, e1, e2]
theorem nbrs_len : ∀ (ts : List (Int × Int)) (v : Nat), (nbrs ts v).length ≤ ts.length
  | [], _ => Nat.le_refl _
  | t :: ts, v => by
    have := nbrs_len ts v
    unfold nbrs at this ⊢
    rw [List.flatMap_cons, List.length_append, List.length_cons]
    have h1 : (if t.1 = (v : Int) then [t.2] else if t.2 = (v : Int) then [t.1] else []).length ≤ 1 := by
      split
      · exact Nat.le_refl _
      · split
        · exact Nat.le_refl _
        · exact Nat.zero_le _
    omega
def sortD (d : D) : D := match d with
  | .lst ds => match intsD ds with
    | some ns => .lst ((srtI ns).map .int)
    | none => d
  | _ => d
/-- ties between posts of n, the lesser one first -/
def TieOk (n : Nat) (ts : List (Int × Int)) : Prop := ∀ t ∈ ts, 0 ≤ t.1 ∧ t.1 < t.2 ∧ t.2 < n
theorem near_ok {size : Int} {n : Nat} {ts : List (Int × Int)} {Q : O → List Sl → Prop} (hs : size = n) (hn : n ≤ 60) (hl : ts.length < 100) (ht : TieOk n ts) (k : ∀ S, Q (.lst ((nearL n ts).map fun r => .sh (rowD r))) S) : wO (f__law_near [.pl (.int size), .pl (.lst (ts.map Z.pairD))]) Q := by
  have hsL : (100 : Nat) < sizeLine := Nat.lt_of_lt_of_le (by omega) sizeLine_big
  have hrow : ∀ (i v : Nat), (nbrs ((srtP ts).take i) v).length ≤ 100 := fun i v => by
    have h1 := nbrs_len ((srtP ts).take i) v
    have h2 : ((srtP ts).take i).length ≤ (srtP ts).length := by rw [List.length_take]; omega
    have h3 := (srtP_perm ts).length_eq
    omega
  have hsn : size.toNat = n := by omega
  unfold f__law_near
  rw [wO_mk]
  unfold m__law_near
  simp only [s_seq, s_own, w_compO0, w_m1x, w_mCons, w_mVar, w_mC]
  simp [v_pl, f_r1, rangeD_len, hsn]
  refine ⟨by omega, ⟨by omega, rfl⟩, ?_⟩
  refine compO_pure (fun _ => .lst []) _ _ (fun d hd => ?_) ?_
  · simp [g_nm, wF_some, w_mYes, w_m1x, w_mC, f_lst, wipeS]
  · have e : (rangeD 0 n).map (fun _ => O.lst []) = rowsO n (nbrs ((srtP ts).take 0)) := by
      unfold rangeD rowsO
      rw [List.map_map]
      rfl
    rw [e]
    simp only [s_for, w_m1x, w_mFr, w_mCons, w_mVar, w_mC]
    simp [v_pl, restS, f_sortQ, wipeS]
    have e0 : fr (O.lst (List.map (O.sh ∘ Z.pairD) (srtP ts))) = .lst ((srtP ts).map Z.pairD) := by
      show D.lst (frL _) = _
      rw [frL_map, List.map_map]
      rfl
    rw [e0, f_itL]
    refine for_inv (nearI size n ts) ⟨.no, .no, by simp⟩ ?_ ?_
    · rintro i d S hd ⟨x, y, rfl⟩
      rw [List.getElem?_map] at hd
      cases hti : (srtP ts)[i]? with
      | none => rw [hti] at hd; cases hd
      | some t =>
        rw [hti] at hd
        cases hd
        have hmem : t ∈ ts := (srtP_perm ts).mem_iff.mp (List.mem_of_getElem? hti)
        obtain ⟨h0, h1, h2⟩ := ht t hmem
        obtain ⟨a, ha⟩ : ∃ a : Nat, t.1 = a := ⟨t.1.toNat, by omega⟩
        obtain ⟨b, hb⟩ : ∃ b : Nat, t.2 = b := ⟨t.2.toNat, by omega⟩
        have hne : a ≠ b := by omega
        have hti' : (srtP ts).take (i + 1) = (srtP ts).take i ++ [t] := by
          obtain ⟨hl, he⟩ := List.getElem?_eq_some_iff.mp hti
          rw [List.take_succ_eq_append_getElem hl, he]
        have hR : nbrs ((srtP ts).take (i + 1)) = addR (addR (nbrs ((srtP ts).take i)) a t.2) b t.1 := by
          rw [hti', nbrs_snoc ha hb hne]
        have hl1 : ((nbrs ((srtP ts).take i) a).map shI).length < sizeLine := by rw [List.length_map]; have := hrow i a; omega
        have hl2 : ((addR (nbrs ((srtP ts).take i)) a t.2 b).map shI).length < sizeLine := by
          rw [List.length_map]
          unfold addR
          rw [if_neg (Ne.symm hne)]
          have := hrow i b
          omega
        have x1 : ixN n t.1 = some a := by rw [ixN_ok h0 (by omega)]; congr 1; omega
        have x2 : ixN n t.2 = some b := by rw [ixN_ok (by omega) (by omega)]; congr 1; omega
        generalize hRi : nbrs ((srtP ts).take i) = R at *
        simp only [Z.pairD, f_tp, g_cons, g_nil, g_nm, wF_some, s_seq, s_drop, w_mut, w_pIx, w_pVar, w_mVar, w_mCons, w_mSh, w_mC]
        simp [v_pl, o_ow, sg2, og_nil, og_lst, i_lst, rows_len, x1, wF_some, rows_at (show a < n by omega), isL_lst]
        rw [m_app]
        refine ⟨hl1, ?_⟩
        simp [sp2, rows_put (show a < n by omega), v_pl, o_ow, sg2, og_nil, og_lst, i_lst, rows_len, x2, wF_some, rows_at (show b < n by omega), isL_lst]
        rw [m_app]
        refine ⟨hl2, ?_⟩
        simp [sp2, rows_put (show b < n by omega)]
        exact ⟨_, _, by rw [hR]⟩
    · rintro S ⟨x, y, rfl⟩
      rw [List.length_map, List.take_length]
      simp only [s_ret, w_comp0, w_m1x, w_mUse]
      simp
      have e1 : fr (O.lst (rowsO n (nbrs (srtP ts)))) = .lst ((List.range n).map fun v => D.lst ((nbrs (srtP ts) v).map .int)) := by
        show D.lst (frL _) = _
        rw [fr_rows]
      rw [e1, f_itL]
      refine ⟨⟨by simp; omega, rfl⟩, ?_⟩
      refine comp_pure (fun _ => true) sortD (fun d hd => ?_) ?_
      · obtain ⟨v, hv, rfl⟩ := List.mem_map.mp hd
        simp only [g_nm, wF_some, w_mYes, w_mFr, w_m1x, w_mCons, w_mVar, w_mC]
        simp [wipeS, v_pl, f_sortI, fr, sortD, intsD_map]
        rw [map_sh_int]
      · have e2 : (((List.range n).map fun v => D.lst ((nbrs (srtP ts) v).map .int)).filter fun _ => true).map sortD = (nearL n ts).map rowD := by
          rw [List.filter_eq_self.mpr (fun _ _ => rfl)]
          unfold nearL
          rw [List.map_map, List.map_map]
          apply List.map_congr_left
          intro v _
          simp [sortD, intsD_map, rowD]
        rw [e2]
        have := k (restS [Sl.pl (D.int size), Sl.pl (D.lst (List.map Z.pairD ts)), Sl.pl (.lst ((List.range n).map fun v => D.lst ((nbrs (srtP ts) v).map .int))), x, y, Sl.no, Sl.no] (wipeS [Sl.pl (D.int size), Sl.pl (D.lst (List.map Z.pairD ts)), Sl.pl (.lst ((List.range n).map fun v => D.lst ((nbrs (srtP ts) v).map .int))), x, y, Sl.no, Sl.no] [6]) [6])
        rw [List.map_map]
        exact this
end W

namespace Z
open PySem PySem.Spec PyProof.Rows L2
theorem c_pure1 {f : Fn} {me : M D} {S : List Sl} {Q : O → List Sl → Prop} {d : D} (hm : wM me S fun d' S1 => d' = d ∧ S1 = S) (h : wO (f [.pl d]) fun o _ => Q o S) : wM (mCall 1 [] f (mCons (aD me) (mC []))) S Q := by
  rw [w_call, w_mCons, w_aD]
  refine wM_mono hm fun d' S1 ⟨h1, h2⟩ => ?_
  subst h1 h2
  show wO (f [.pl d']) _
  exact wO_mono h fun o S2 q => ⟨rfl, q⟩
theorem c_pure2 {f : Fn} {me mf : M D} {S : List Sl} {Q : O → List Sl → Prop} {d e : D} (hm : wM me S fun d' S1 => d' = d ∧ S1 = S) (hm2 : wM mf S fun d' S1 => d' = e ∧ S1 = S) (h : wO (f [.pl d, .pl e]) fun o _ => Q o S) : wM (mCall 2 [] f (mCons (aD me) (mCons (aD mf) (mC [])))) S Q := by
  rw [w_call, w_mCons, w_aD]
  refine wM_mono hm fun d' S1 ⟨h1, h2⟩ => ?_
  subst h1 h2
  rw [w_mCons, w_aD]
  refine wM_mono hm2 fun d2 S2 ⟨h1, h2⟩ => ?_
  subst h1 h2
  show wO (f [.pl d', .pl d2]) _
  exact wO_mono h fun o S2 q => ⟨rfl, q⟩
theorem f_isi {fb : Kd → Option Bool} {fo : Str → Option Bool} {d : D} {k : Kd} {b : Bool} {P : D → Prop} (h : dkd d = .inl k) (hb : fb k = some b) : wF (dIsi fb fo d) P = P (.bl b) := by
  unfold dIsi
  rw [h]
  simp only [hb]
  rfl
theorem isi_int {n : Int} {P : D → Prop} : wF (dIsi (isT .int) noO (.int n)) P = P (.bl true) := propext Iff.rfl
theorem isi_int_bl {n : Int} {P : D → Prop} : wF (dIsi (isT .bl) noO (.int n)) P = P (.bl false) := propext Iff.rfl
theorem isi_tup {ds : List D} {P : D → Prop} : wF (dIsi (isT .tup) noO (.tup ds)) P = P (.bl true) := propext Iff.rfl
theorem isi_lst {ds : List D} {P : D → Prop} : wF (dIsi (isT .lst) noO (.lst ds)) P = P (.bl true) := propext Iff.rfl
theorem isi_lt {ds : List D} {P : D → Prop} : wF (dIsi (isT2 .lst .tup) noO (.lst ds)) P = P (.bl true) := propext Iff.rfl
theorem w_mCh {f g : D → D → Option D} {a b c : M D} {S : List Sl} {Q : D → List Sl → Prop} : wM (mCh f g a b c) S Q = wM a S fun x S1 => wM b S1 fun y S2 => wF (f x y) fun r => wB r fun t => (t = true → wM c S2 fun z S3 => wF (g y z) fun d => Q d S3) ∧ (t = false → Q (.bl false) S2) := by
  unfold wM mCh
  simp only [wO_bd]
  congr
  funext x S1
  congr
  funext y S2
  cases f x y with
  | none => rfl
  | some d =>
    cases d with
    | bl t =>
      cases t with
      | true =>
        simp only [wO_bd, wO_oo]
        show _ = ((true = true → _) ∧ (true = false → _))
        simp
      | false =>
        show _ = ((false = true → _) ∧ (false = false → _))
        simp
        rfl
    | _ => rfl
theorem f_lent {ds : List D} {P : D → Prop} : wF (fLen [.tup ds]) P = P (.int ds.length) := propext Iff.rfl
end Z
namespace W
open PySem PySem.Spec PyProof.Rows L2 Z
theorem is_integer_ok {n : Int} {Q : O → List Sl → Prop} (k : ∀ S, Q (.sh (.bl true)) S) : wO (f_is_integer [.pl (.int n)]) Q := by
  unfold f_is_integer
  rw [wO_mk]
  unfold m_is_integer
  simp only [s_ret, w_mSh, w_mBl, w_mAnd, w_mTst, w_m1x, w_mVar, w_mNot]
  simp [v_pl, isi_int, isi_int_bl, b_bl]
  exact k _
theorem is_post_ok {n size : Int} {Q : O → List Sl → Prop} (k : ∀ S, Q (.sh (.bl (decide (0 ≤ n ∧ n < size)))) S) : wO (f_is_post [.pl (.int n), .pl (.int size)]) Q := by
  unfold f_is_post
  rw [wO_mk]
  unfold m_is_post
  simp only [s_ret, w_mSh, w_mBl, w_mAnd, w_mTst, w_mFr]
  refine c_pure1 (d := .int n) (by simp [w_mVar, v_pl]) (is_integer_ok fun S => ?_)
  simp only [w_mCh, w_mVar, w_mC]
  simp [v_pl, fr, b_bl, f_le, f_lt]
  refine ⟨fun h => ?_, fun h => ?_⟩
  · have := k [Sl.pl (D.int n), Sl.pl (D.int size)]
    simpa [h] using this
  · have := k [Sl.pl (D.int n), Sl.pl (D.int size)]
    have h2 : ¬ 0 ≤ n := by omega
    simpa [h2] using this
theorem is_tie_ok {a b size : Int} {Q : O → List Sl → Prop} (h : 0 ≤ a ∧ a < b ∧ b < size) (k : ∀ S, Q (.sh (.bl true)) S) : wO (f_is_tie [.pl (.tup [.int a, .int b]), .pl (.int size)]) Q := by
  unfold f_is_tie
  rw [wO_mk]
  unfold m_is_tie
  simp only [s_seq, s_if, w_mOr, w_mNot, w_mTst, w_m1x, w_m2x, w_mVar, w_mCons, w_mC, s_ret, w_mSh, w_mBl, w_mAnd, s_next, w_mFr]
  simp [v_pl, isi_tup, b_bl, f_lent, f_ne]
  refine c_pure2 (d := .int a) (e := .int size) (by simp [w_m2x, w_mVar, w_mC, v_pl, f_ixt, atI, ixN, wF_some]) (by simp [w_mVar, v_pl]) (is_post_ok fun S => ?_)
  have e1 : decide (0 ≤ a ∧ a < size) = true := decide_eq_true (by omega)
  rw [e1]
  simp only [fr, b_bl]
  refine ⟨fun _ => ?_, fun z => by cases z⟩
  refine c_pure2 (d := .int b) (e := .int size) (by simp [w_m2x, w_mVar, w_mC, v_pl, f_ixt, atI, ixN, wF_some]) (by simp [w_mVar, v_pl]) (is_post_ok fun S => ?_)
  have e2 : decide (0 ≤ b ∧ b < size) = true := decide_eq_true (by omega)
  rw [e2]
  simp [fr, b_bl, v_pl, f_ixt, atI, ixN, wF_some, f_lt, h.2.1]
  exact k _
end W

namespace Z
open PySem PySem.Spec PyProof.Rows L2
theorem f_itS {ds : List D} {P : List D → Prop} : wF (itS (.lst ds)) P = P ds := propext Iff.rfl
theorem f_all {bs : List Bool} {P : D → Prop} : wF (fAll [.lst (bs.map D.bl)]) P = P (.bl (bs.all id)) := by
  unfold fAll f1B
  simp only [lstD, Option.bind_some, bsD_map]
  rfl
theorem f_cnt {ns : List Int} {P : D → Prop} : wF (dCnt (.lst (ns.map D.int))) P = (ns.length < 4000 ∧ P (.int (unl ns).length)) := by
  unfold dCnt
  simp only [seqD, Option.bind_some, intsD_map]
  by_cases h : ns.length < 4000
  · simp only [decide_eq_true h, h, true_and]
    rfl
  · simp only [decide_eq_false h, h, false_and]
    rfl
theorem f_leni {ns : List Int} {P : D → Prop} : wF (fLen [.lst (ns.map D.int)]) P = P (.int ns.length) := by
  rw [f_len, List.length_map]
end Z
namespace W
open PySem PySem.Spec PyProof.Rows L2 Z
def isPostD (size : Int) (d : D) : D := match d with
  | .int n => .bl (decide (0 ≤ n ∧ n < size))
  | _ => .non
theorem are_posts_ok {ws : List Int} {size : Int} {Q : O → List Sl → Prop} (h : ∀ w ∈ ws, 0 ≤ w ∧ w < size) (nd : ws.Nodup) (hl : ws.length < 4000) (k : ∀ S, Q (.sh (.bl true)) S) : wO (f_are_posts [.pl (.lst (ws.map .int)), .pl (.int size)]) Q := by
  unfold f_are_posts
  rw [wO_mk]
  unfold m_are_posts
  simp only [s_seq, s_if, w_mOr, w_mNot, w_mTst, w_m1x, w_mVar, w_mCons, w_mC, w_mFr, w_comp0, s_ret, w_mSh, w_m2x, s_next]
  simp [v_pl, isi_lt, b_bl, f_itS]
  refine ⟨⟨by omega, rfl⟩, ?_⟩
  refine comp_pure (fun _ => true) (isPostD size) (fun d hd => ?_) ?_
  · obtain ⟨w, hw, rfl⟩ := List.mem_map.mp hd
    simp only [g_nm, wF_some, w_mYes, w_mFr]
    refine ⟨trivial, fun _ => ?_, fun z => by cases z⟩
    refine c_pure2 (d := .int w) (e := .int size) (by simp [wipeS, w_mVar, v_pl]) (by simp [wipeS, w_mVar, v_pl]) (is_post_ok fun S => ?_)
    exact ⟨rfl, by simp [wipeS]⟩
  · have e : (((ws.map D.int).filter fun _ => true).map (isPostD size)) = (ws.map fun _ => true).map D.bl := by
      rw [List.filter_eq_self.mpr (fun _ _ => rfl), List.map_map, List.map_map]
      apply List.map_congr_left
      intro w hw
      have := h w hw
      simp [isPostD, this]
    rw [e]
    have e2 : fr (O.lst (((ws.map fun _ => true).map D.bl).map O.sh)) = .lst ((ws.map fun _ => true).map D.bl) := by
      show D.lst (frL _) = _
      rw [frL_sh]
    simp only [e2, f_all, b_bl]
    have e3 : (ws.map fun _ => true).all id = true := by
      rw [List.all_map]
      exact List.all_eq_true.mpr fun _ _ => rfl
    rw [e3]
    simp [restS, wipeS, v_pl, f_cnt, f_leni, f_eq, hl, unl_of_nodup nd]
    exact k _
end W

/-! T7: a tree's ties never join what is joined: labels. -/
namespace W
open PySem PySem.Spec PyProof.Rows L2 Z
theorem sub_len : ∀ {l m : List Int}, l.Nodup → (∀ x ∈ l, x ∈ m) → l.length ≤ m.length
  | [], m, _, _ => Nat.zero_le _
  | x :: l, m, nd, h => by
    have h1 := List.nodup_cons.mp nd
    have hx := h x List.mem_cons_self
    have h2 : l.length ≤ (m.erase x).length := sub_len h1.2 fun y hy => (List.mem_erase_of_ne (show y ≠ x from fun e => h1.1 (e ▸ hy))).mpr (h y (List.mem_cons_of_mem _ hy))
    rw [List.length_erase_of_mem hx] at h2
    have : 0 < m.length := List.length_pos_of_mem hx
    rw [List.length_cons]
    omega
def at0 (L : List Int) (v : Int) : Int := L.getD v.toNat 0
def unite (L : List Int) (t : Int × Int) : List Int := L.map fun l => if l = at0 L t.2 then at0 L t.1 else l
theorem unite_len {L : List Int} {t : Int × Int} : (unite L t).length = L.length := List.length_map ..
theorem unite_at {L : List Int} {t : Int × Int} {v : Int} (h : v.toNat < L.length) : at0 (unite L t) v = if at0 L v = at0 L t.2 then at0 L t.1 else at0 L v := by
  unfold at0 unite
  simp only [List.getD_eq_getElem?_getD, List.getElem?_map, List.getElem?_eq_getElem h, Option.map_some, Option.getD_some]
  rfl
theorem unite_same {L : List Int} {t : Int × Int} (h : at0 L t.1 = at0 L t.2) : unite L t = L := by
  unfold unite
  conv => rhs; rw [← List.map_id L]
  apply List.map_congr_left
  intro l _
  show (if l = at0 L t.2 then at0 L t.1 else l) = l
  split
  · rename_i e; rw [e, h]
  · rfl
def cnt (L : List Int) : Nat := (unl L).length
theorem cnt_unite {L : List Int} {t : Int × Int} : cnt L ≤ cnt (unite L t) + 1 := by
  unfold cnt
  have h := sub_len (l := unl L) (m := at0 L t.2 :: unl (unite L t)) unl_nodup fun x hx => by
    by_cases e : x = at0 L t.2
    · rw [e]; exact List.mem_cons_self
    · refine List.mem_cons_of_mem _ (unl_mem.mpr (List.mem_map.mpr ⟨x, unl_mem.mp hx, if_neg e⟩))
  rw [List.length_cons] at h
  exact h
theorem cnt_fold : ∀ (ts : List (Int × Int)) (L : List Int), cnt L ≤ cnt (ts.foldl unite L) + ts.length
  | [], L => Nat.le_refl _
  | t :: ts, L => by
    have h1 := cnt_unite (L := L) (t := t)
    have h2 := cnt_fold ts (unite L t)
    rw [List.foldl_cons, List.length_cons]
    omega
theorem fold_len : ∀ (ts : List (Int × Int)) (L : List Int), (ts.foldl unite L).length = L.length
  | [], L => rfl
  | t :: ts, L => by rw [List.foldl_cons, fold_len ts, unite_len]
theorem fold_keep : ∀ (ts : List (Int × Int)) (L : List Int) (u v : Int), u.toNat < L.length → v.toNat < L.length → at0 L u = at0 L v → at0 (ts.foldl unite L) u = at0 (ts.foldl unite L) v
  | [], L, u, v, _, _, h => h
  | t :: ts, L, u, v, hu, hv, h => by
    rw [List.foldl_cons]
    refine fold_keep ts (unite L t) u v (by rw [unite_len]; exact hu) (by rw [unite_len]; exact hv) ?_
    rw [unite_at hu, unite_at hv, h]
theorem fold_tie : ∀ (ts : List (Int × Int)) (L : List Int) (t : Int × Int), t ∈ ts → (∀ t ∈ ts, t.1.toNat < L.length ∧ t.2.toNat < L.length) → at0 (ts.foldl unite L) t.1 = at0 (ts.foldl unite L) t.2
  | s :: ts, L, t, h, hl => by
    rw [List.foldl_cons]
    obtain ⟨h1, h2⟩ := hl t h
    rcases List.mem_cons.mp h with e | e
    · subst e
      refine fold_keep ts (unite L t) _ _ (by rw [unite_len]; exact h1) (by rw [unite_len]; exact h2) ?_
      rw [unite_at h1, unite_at h2]
      rw [if_pos rfl]
      split <;> rfl
    · exact fold_tie ts (unite L s) t e fun x hx => by
        rw [unite_len]
        exact hl x (List.mem_cons_of_mem _ hx)
/-- all joined in the end: none joined twice -/
theorem unlike {ts : List (Int × Int)} {L : List Int} (hl : cnt L = ts.length + 1) (he : cnt (ts.foldl unite L) ≤ 1) {i : Nat} {t : Int × Int} (ht : ts[i]? = some t) : at0 ((ts.take i).foldl unite L) t.1 ≠ at0 ((ts.take i).foldl unite L) t.2 := fun e => by
  obtain ⟨hi, hti⟩ := List.getElem?_eq_some_iff.mp ht
  have e1 : ts = ts.take i ++ t :: ts.drop (i + 1) := by
    have := (List.take_append_drop i ts).symm
    rw [List.drop_eq_getElem_cons hi, hti] at this
    exact this
  have h1 := cnt_fold (ts.take i) L
  have h2 := cnt_fold (ts.drop (i + 1)) ((ts.take i).foldl unite L)
  have e2 : ts.foldl unite L = (ts.drop (i + 1)).foldl unite ((ts.take i).foldl unite L) := by
    conv => lhs; rw [e1]
    rw [List.foldl_append, List.foldl_cons, unite_same e]
  rw [← e2] at h2
  rw [List.length_take] at h1
  rw [List.length_drop] at h2
  omega
end W

/-! T8: what a tree's ties are. -/
namespace W
open PySem PySem.Spec PyProof.Rows L2 Z
theorem upto_mem {n : Nat} {x : Int} : x ∈ upto n ↔ 0 ≤ x ∧ x < n := by
  unfold upto
  rw [List.mem_map]
  constructor
  · rintro ⟨i, hi, rfl⟩
    have := List.mem_range.mp hi
    omega
  · rintro ⟨h0, h1⟩
    exact ⟨x.toNat, List.mem_range.mpr (by omega), by omega⟩
theorem upto_nodup (n : Nat) : (upto n).Nodup := by
  unfold upto
  exact List.Pairwise.map (R := fun a b : Nat => a ≠ b) _ (fun a b h e => h (by omega)) (List.nodup_range (n := n))
theorem ord_at {n : Nat} {order : List Int} (h : order.Perm (upto n)) {k : Nat} (hk : k < n) : ∃ x, order[k]? = some x ∧ order.getD k 0 = x ∧ 0 ≤ x ∧ x < n := by
  have hl : k < order.length := by rw [h.length_eq, upto_len]; exact hk
  refine ⟨order[k], List.getElem?_eq_getElem hl, by rw [List.getD_eq_getElem?_getD, List.getElem?_eq_getElem hl]; rfl, ?_⟩
  exact upto_mem.mp (h.mem_iff.mp (List.getElem_mem hl))
theorem ord_inj {n : Nat} {order : List Int} (h : order.Perm (upto n)) {k j : Nat} (hk : k < n) (hj : j < n) (e : order.getD k 0 = order.getD j 0) : k = j := by
  have nd : order.Nodup := h.nodup_iff.mpr (upto_nodup n)
  have hl : order.length = n := by rw [h.length_eq, upto_len]
  rw [List.getD_eq_getElem?_getD, List.getD_eq_getElem?_getD, List.getElem?_eq_getElem (by omega), List.getElem?_eq_getElem (by omega)] at e
  have e' : order[k]'(by omega) = order[j]'(by omega) := e
  have pw := List.pairwise_iff_getElem.mp nd
  rcases Nat.lt_trichotomy k j with hlt | he | hgt
  · exact absurd e' (pw k j (by omega) (by omega) hlt)
  · exact he
  · exact absurd e'.symm (pw j k (by omega) (by omega) hgt)
theorem par_at {ps : List Int} (hp : ParOk ps) {k : Nat} (hk : k < ps.length) : (ps.getD k 0).toNat ≤ k := by
  have := hp k ps[k] (List.getElem?_eq_getElem hk)
  rw [List.getD_eq_getElem?_getD, List.getElem?_eq_getElem hk]
  show (ps[k]).toNat ≤ k
  omega
theorem tree_len {n : Nat} {ts : List (Int × Int)} (h : TreeOk n ts) : ts.length = n - 1 := by
  obtain ⟨order, ps, ho, hl, hp, ht⟩ := h
  rw [ht.length_eq]
  unfold mkTies
  rw [List.length_map, List.length_range]
theorem tree_tie {n : Nat} {ts : List (Int × Int)} (h : TreeOk n ts) : TieOk n ts := by
  obtain ⟨order, ps, ho, hl, hp, ht⟩ := h
  intro t htm
  obtain ⟨k, hk, rfl⟩ := List.mem_map.mp (ht.mem_iff.mp htm)
  have hk' := List.mem_range.mp hk
  obtain ⟨x, _, hx, hx0, hx1⟩ := ord_at ho (k := k + 1) (by omega)
  have hpk := par_at hp (k := k) (by omega)
  obtain ⟨y, _, hy, hy0, hy1⟩ := ord_at ho (k := (ps.getD k 0).toNat) (by omega)
  have hne : x ≠ y := fun e => by
    have := ord_inj ho (k := k + 1) (j := (ps.getD k 0).toNat) (by omega) (by omega) (by rw [hx, hy, e])
    omega
  unfold tieAt
  rw [hx, hy]
  simp only
  split
  · exact ⟨hx0, by omega, hy1⟩
  · exact ⟨hy0, by omega, hx1⟩
theorem tree_join {β : Type} {n : Nat} {ts : List (Int × Int)} (h : TreeOk n ts) (F : Int → β) (hF : ∀ t ∈ ts, F t.1 = F t.2) {u v : Int} (hu : 0 ≤ u ∧ u < n) (hv : 0 ≤ v ∧ v < n) : F u = F v := by
  obtain ⟨order, ps, ho, hl, hp, ht⟩ := h
  have key : ∀ m k, k ≤ m → k < n → F (order.getD k 0) = F (order.getD 0 0) := by
    intro m
    induction m with
    | zero => intro k hk _; rw [Nat.le_zero.mp hk]
    | succ m ih =>
      intro k hk hn
      cases k with
      | zero => rfl
      | succ k =>
        have hpk := par_at hp (k := k) (by omega)
        have htm : tieAt order ps k ∈ ts := ht.mem_iff.mpr (List.mem_map.mpr ⟨k, List.mem_range.mpr (by omega), rfl⟩)
        have e := hF _ htm
        have e2 : F (order.getD (k + 1) 0) = F (order.getD (ps.getD k 0).toNat 0) := by
          unfold tieAt at e
          simp only at e
          split at e
          · exact e
          · exact e.symm
        rw [e2]
        exact ih _ (by omega) (by omega)
  have all : ∀ w : Int, 0 ≤ w ∧ w < n → F w = F (order.getD 0 0) := fun w hw => by
    have hm : w ∈ order := ho.mem_iff.mpr (upto_mem.mpr hw)
    obtain ⟨k, hk, e⟩ := List.mem_iff_getElem.mp hm
    have hkn : k < n := by rw [ho.length_eq, upto_len] at hk; exact hk
    have := key k k (Nat.le_refl _) hkn
    rw [List.getD_eq_getElem?_getD, List.getElem?_eq_getElem hk] at this
    rw [← e]
    exact this
  rw [all u hu, all v hv]
theorem tree_labels {n : Nat} {ts : List (Int × Int)} (h : TreeOk n ts) (hn : 1 ≤ n) {i : Nat} {t : Int × Int} (hi : ts[i]? = some t) : at0 ((ts.take i).foldl unite (upto n)) t.1 ≠ at0 ((ts.take i).foldl unite (upto n)) t.2 := by
  have hl : (upto n).length = n := upto_len n
  have ht := tree_tie h
  refine unlike ?_ ?_ hi
  · rw [tree_len h]
    unfold cnt
    rw [unl_of_nodup (upto_nodup n), hl]
    omega
  · have hj : ∀ u v : Int, (0 ≤ u ∧ u < n) → (0 ≤ v ∧ v < n) → at0 (ts.foldl unite (upto n)) u = at0 (ts.foldl unite (upto n)) v := fun u v hu hv =>
      tree_join h (fun x => at0 (ts.foldl unite (upto n)) x) (fun t htm => fold_tie ts (upto n) t htm fun s hs => by
        have := ht s hs
        rw [hl]
        omega) hu hv
    have hfl : (ts.foldl unite (upto n)).length = n := by rw [fold_len, hl]
    unfold cnt
    refine sub_len (m := [at0 (ts.foldl unite (upto n)) 0]) unl_nodup fun x hx => ?_
    obtain ⟨k, hk, e⟩ := List.mem_iff_getElem.mp (unl_mem.mp hx)
    have := hj (k : Int) 0 ⟨by omega, by omega⟩ ⟨by omega, by omega⟩
    have e2 : at0 (ts.foldl unite (upto n)) (k : Int) = x := by
      unfold at0
      rw [Int.toNat_natCast, List.getD_eq_getElem?_getD, List.getElem?_eq_getElem hk]
      exact e
    rw [← e2, this]
    exact List.mem_cons_self
end W

/-! T9: check_tree. -/
namespace W
open PySem PySem.Spec PyProof.Rows L2 Z
theorem at_ix {L : List Int} {v : Int} {P : D → Prop} (h0 : 0 ≤ v) (h1 : v < L.length) : wF (dIx (.lst (L.map .int)) (.int v)) P = P (.int (at0 L v)) := by
  have hl : v.toNat < L.length := by omega
  rw [f_ix]
  unfold atI
  rw [ixN_ok h0 (by rw [List.length_map]; omega)]
  simp only [Option.bind_some, List.getElem?_map, List.getElem?_eq_getElem hl, Option.map_some, wF_some]
  unfold at0
  rw [List.getD_eq_getElem?_getD, List.getElem?_eq_getElem hl]
  rfl
theorem rg_upto {size : Int} {n : Nat} {P : List D → Prop} (hs : size = n) (hn : n ≤ 60) : wF (dRg (.int 0) (.int size)) P = P ((upto n).map .int) := by
  have h : rgOk 0 size = true := by
    unfold rgOk
    exact decide_eq_true (by omega)
  unfold dRg
  simp only [h, wF_some]
  congr 1
  unfold rgD upto
  rw [List.map_map]
  have e : (size - 0).toNat = n := by omega
  rw [e]
  apply List.map_congr_left
  intro i _
  show D.int (0 + (i : Int)) = D.int (i : Int)
  rw [Int.zero_add]
theorem f_en {ts : List D} {P : List D → Prop} : wF (itEn [.lst ts]) P = P (enumD ts) := propext Iff.rfl
theorem en_at {ts : List (Int × Int)} {i : Nat} {d : D} (h : (enumD (ts.map Z.pairD))[i]? = some d) : ∃ t, ts[i]? = some t ∧ d = .tup [.int (i : Int), Z.pairD t] := by
  have hl : i < ts.length := by
    have := (List.getElem?_eq_some_iff.mp h).1
    unfold enumD at this
    rw [enumFrom_len, List.length_map] at this
    exact this
  refine ⟨ts[i], List.getElem?_eq_getElem hl, ?_⟩
  have := enumFrom_at (ts.map Z.pairD) 0 i (Z.pairD ts[i]) (by rw [List.getElem?_map, List.getElem?_eq_getElem hl]; rfl)
  unfold enumD at h
  rw [this, Nat.zero_add] at h
  exact (Option.some.inj h).symm
def chkI (size : Int) (n : Nat) (ts : List (Int × Int)) (i : Nat) (S : List Sl) : Prop := ∃ a b c d, S = [.pl (.int size), .pl (.lst (ts.map Z.pairD)), .pl (.lst (((ts.take i).foldl unite (upto n)).map .int)), a, b, c, d, .no]
theorem check_tree_ok {size : Int} {n : Nat} {ts : List (Int × Int)} {Q : O → List Sl → Prop} (hs : size = n) (hn : 1 ≤ n) (hn2 : n ≤ 60) (h : TreeOk n ts) (k : ∀ S, Q (.sh .non) S) : wO (f_check_tree [.pl (.int size), .pl (.lst (ts.map Z.pairD))]) Q := by
  have hlen := tree_len h
  have ht := tree_tie h
  have hsn : size.toNat = n := by omega
  have hsL : (100 : Nat) < sizeLine := Nat.lt_of_lt_of_le (by omega) sizeLine_big
  unfold f_check_tree
  rw [wO_mk]
  unfold m_check_tree
  simp only [s_seq, s_asg, w_mFr, w_m1N, w_m1x, w_mVar, w_mCons, w_mC, s_for]
  simp only [List.getElem?_cons_zero, List.cons_append, List.nil_append, v_pl, rg_upto hs hn2, f_mkT, fr, frL_sh, g_nm, wF_some]
  simp [v_pl, f_en]
  refine for_inv (chkI size n ts) ⟨_, _, _, _, rfl⟩ ?_ ?_
  · rintro i d S hd ⟨a, b, c, e, rfl⟩
    obtain ⟨t, hti, rfl⟩ := en_at hd
    have hmem : t ∈ ts := List.mem_of_getElem? hti
    obtain ⟨h0, h1, h2⟩ := ht t hmem
    have hne := tree_labels h hn hti
    have hnx : (ts.take (i + 1)).foldl unite (upto n) = unite ((ts.take i).foldl unite (upto n)) t := by
      obtain ⟨hl, he⟩ := List.getElem?_eq_some_iff.mp hti
      rw [List.take_succ_eq_append_getElem hl, he, List.foldl_append]
      rfl
    have hL : ((ts.take i).foldl unite (upto n)).length = n := by rw [fold_len, upto_len]
    unfold chkI
    rw [hnx]
    generalize (ts.take i).foldl unite (upto n) = L at *
    have hx1 : t.1 < L.length := by omega
    have hx2 : t.2 < L.length := by omega
    have hy2 : 0 ≤ t.2 := by omega
    have ia : ∀ P : D → Prop, wF (dIx (Z.pairD t) (.int 0)) P = P (.int t.1) := fun P => rfl
    have ib : ∀ P : D → Prop, wF (dIx (Z.pairD t) (.int 1)) P = P (.int t.2) := fun P => rfl
    simp only [f_tp, g_cons, g_nil, g_nm, wF_some, s_seq, s_if, w_mOr, w_mNot, w_mTst, w_mFr]
    refine ⟨rfl, ?_⟩
    refine c_pure2 (d := .tup [.int t.1, .int t.2]) (e := .int size) (by simp [w_mVar, v_pl]; rfl) (by simp [w_mVar, v_pl]) (is_tie_ok ⟨h0, h1, by omega⟩ fun S => ?_)
    simp only [fr, b_bl]
    refine ⟨fun z => (by cases z), fun _ => ?_⟩
    simp only [w_m2x, w_mVar, w_mC, List.set_cons_succ, List.set_cons_zero, List.getElem?_cons_succ, List.getElem?_cons_zero, v_pl, ia, ib, at_ix h0 hx1, at_ix hy2 hx2, f_eq, b_bl]
    refine ⟨fun z => absurd (of_decide_eq_true z) hne, fun _ => ?_⟩
    simp only [s_next, s_asg, w_mFr, w_m1x, w_m2x, w_mVar, w_mC, w_mCons, List.set_cons_succ, List.set_cons_zero, List.getElem?_cons_succ, List.getElem?_cons_zero, v_pl, ia, ib, at_ix h0 hx1, at_ix hy2 hx2, f_tup]
    refine ⟨by show 2 ≤ sizeLine; omega, ?_⟩
    have e1 : fr (O.tup (List.map O.sh [D.int (at0 L t.2), D.int (at0 L t.1)])) = .tup [D.int (at0 L t.2), D.int (at0 L t.1)] := rfl
    rw [e1]
    simp only [f_tp, g_cons, g_nil, g_nm, wF_some]
    refine ⟨rfl, ?_⟩
    simp only [w_comp0, w_m1x, w_mVar, List.set_cons_succ, List.set_cons_zero, List.getElem?_cons_succ, List.getElem?_cons_zero, v_pl, f_itL]
    refine ⟨⟨by rw [List.length_map]; omega, rfl⟩, ?_⟩
    refine comp_pure (fun _ => true) (fun d => match d with | .int l => .int (if l = at0 L t.2 then at0 L t.1 else l) | _ => .non) (fun d hd => ?_) ?_
    · obtain ⟨l, hl, rfl⟩ := List.mem_map.mp hd
      simp only [g_nm, wF_some, w_mYes]
      refine ⟨trivial, fun _ => ?_, fun z => (by cases z)⟩
      simp only [w_mIf, w_mTst, w_m2x, w_mVar, wipeS]
      simp [v_pl, f_eq, b_bl]
      refine ⟨fun z => ?_, fun z => ?_⟩
      · exact fun y => absurd z y
      · exact fun y => absurd y z
    · refine ⟨.pl (.int (i : Int)), .pl (Z.pairD t), .pl (.int (at0 L t.2)), .pl (.int (at0 L t.1)), ?_⟩
      have e2 : fr (O.lst (List.map O.sh (List.map (fun d => match d with | D.int l => D.int (if l = at0 L t.2 then at0 L t.1 else l) | _ => D.non) (List.filter (fun _ => true) (List.map D.int L))))) = .lst ((unite L t).map D.int) := by
        show D.lst (frL _) = _
        rw [frL_sh, List.filter_eq_self.mpr (fun _ _ => rfl), List.map_map]
        unfold unite
        rw [List.map_map]
        rfl
      rw [e2]
      rfl
  · rintro S ⟨a, b, c, e, rfl⟩
    simp only [s_if, w_mTst, w_m2x, w_m1x, w_mVar, w_mCons, w_mC, s_next]
    simp [v_pl, f_len, f_sub, f_lt, b_bl]
    exact ⟨fun z => (by omega), fun _ => k _⟩
end W

/-! T10: rules for objects: a field set, an object made, a method called. -/
namespace Z
open PySem PySem.Spec PyProof.Rows L2
def wSF (x : Option O) (cn : Str) (P : List Str → List O → Prop) : Prop := match x with
  | some (.obj C fs os) => (C = cn ∧ fs.length < 1000) ∧ P fs os
  | _ => False
theorem wOS_setF {cn f : Str} {i : Nat} {p : List Stp} {o : O} {S : List Sl} {k : Ks} : wOS (setF cn f i p o S) k = wSF (sget S i p) cn fun fs os => k.n (sput S i p (.obj cn (putO f o fs os).1 (putO f o fs os).2)) := by
  unfold setF wSF
  cases sget S i p with
  | none => rfl
  | some x =>
    cases x with
    | obj C fs os =>
      by_cases h : C = cn ∧ fs.length < 1000
      · obtain ⟨h1, h2⟩ := h
        subst h1
        simp only [decide_eq_true (And.intro rfl h2 : C = C ∧ fs.length < 1000)]
        simp [h2]
        rfl
      · simp only [decide_eq_false h]
        simp only [h, false_and]
        rfl
    | _ => rfl
theorem s_setF {cn f : Str} {i : Nat} {mo : M O} {mp : M (List Stp)} {S : List Sl} {k : Ks} : wS (sSetF cn f i mo mp) S k = wM mo S fun o S1 => wM mp S1 fun p S2 => wSF (sget S2 i p) cn fun fs os => k.n (sput S2 i p (.obj cn (putO f o fs os).1 (putO f o fs os).2)) := by
  unfold wS sSetF
  simp only [wOS_sd, wOS_setF]
  rfl
theorem w_make {cn : Str} {n : Nat} {io : List Nat} {f : Fn} {nn kn : Nat} {gA : List Av → List Av → List Av} {ma mk : M (List Av)} {S : List Sl} {Q : O → List Sl → Prop} : wM (mMake cn n io f nn kn gA ma mk) S Q = wM ma S fun as S1 => wM mk S1 fun zs S2 => (as.length = nn ∧ zs.length = kn) ∧ wO (makeV cn n io f (gA as zs) S2) Q := by
  unfold wM mMake
  simp only [wO_bd]
  congr
  funext as S1
  congr
  funext zs S2
  by_cases h : as.length = nn ∧ zs.length = kn
  · simp only [decide_eq_true h]
    simp [h]
  · simp only [decide_eq_false h]
    simp only [h, false_and]
    rfl
def wMk (o : O) (x : Option Sl) (P : O → Prop) : Prop := match isNonO o, x with
  | true, some (.ow o) => P o
  | _, _ => False
theorem wO_make {cn : Str} {n : Nat} {io : List Nat} {f : Fn} {as : List Av} {S : List Sl} {Q : O → List Sl → Prop} : wO (makeV cn n io f as S) Q = wO (callV n io f (.b S.length :: as) (S ++ [.ow (.obj cn [] [])])) fun r S2 => wMk r S2.getLast? fun o => Q o S2.dropLast := by
  unfold makeV
  rw [wO_bd]
  congr
  funext r S2
  unfold wMk
  cases isNonO r with
  | false => rfl
  | true =>
    cases S2.getLast? with
    | none => rfl
    | some x => cases x <;> rfl
theorem c_meth {C m : Str} {n : Nat} {io : List Nat} {f : Fn} {mo : M D} {ma : M (List Av)} {S : List Sl} {Q : O → List Sl → Prop} {fs : List Str} {ds : List D} (mv : wM mo S fun d S1 => d = .obj C fs ds ∧ fs.contains m = false ∧ wM ma S1 fun as S2 => wO (callV n io f (.d (.obj C fs ds) :: as) S2) Q) : wM (mMeth C m n io f mo ma) S Q := by
  unfold wM mMeth
  rw [wO_bd]
  refine wO_mono mv fun d S1 ⟨h1, h2, h3⟩ => ?_
  subst h1
  have e : (decide (C = C) && !fs.contains m) = true := by rw [h2]; simp
  show wO (match (decide (C = C) && !fs.contains m) with | true => (ma S1).bd fun as S1 => callV n io f (.d (.obj C fs ds) :: as) S1 | false => .bad) Q
  rw [e]
  show wO (Out.bd _ _) Q
  rw [wO_bd]
  exact h3
end Z

set_option maxHeartbeats 2000000
/-! Y6: objects made. -/
namespace Z
open PySem PySem.Spec PyProof.Rows L2
theorem x_mk {cn : Str} {f : Fn} {a b c : M D} {S : List Sl} {Q : O → List Sl → Prop} : wM (mMake cn 4 [0] f 2 1 (· ++ ·) (mCons (aD a) (mCons (aD b) (mC []))) (mCons (aD c) (mC []))) S Q = wM a S fun d S1 => wM b S1 fun e S2 => wM c S2 fun g S3 => wO (f [.ow (.obj cn [] []), .pl d, .pl e, .pl g]) fun r S4 => wMk r (some (S4.getD 0 .no)) fun o => Q o S3 := by
  rw [w_make]
  simp only [w_mCons, w_aD, w_mC]
  congr; funext d S1
  congr; funext e S2
  congr; funext g S3
  have h0 : argOf (S3 ++ [.ow (.obj cn [] [])]) (.b S3.length) = some (.ow (.obj cn [] [])) := by
    show (match (S3 ++ [Sl.ow (.obj cn [] [])])[S3.length]? with | some (.ow o) => some (Sl.ow o) | _ => none) = _
    rw [List.getElem?_append_right (Nat.le_refl _), Nat.sub_self]
    rfl
  rw [wO_make, wO_call]
  have h1 : argsOf (S3 ++ [.ow (.obj cn [] [])]) [.b S3.length, .d d, .d e, .d g] = some [.ow (.obj cn [] []), .pl d, .pl e, .pl g] := by
    unfold argsOf
    rw [h0]
    rfl
  have h2 : callOk 4 [0] [.b S3.length, .d d, .d e, .d g] = true := by simp [callOk, lentAt, Z.shown]
  unfold wC
  show ((2 = 2 ∧ 1 = 1) ∧ match callOk 4 [0] [.b S3.length, .d d, .d e, .d g], argsOf (S3 ++ [.ow (.obj cn [] [])]) [.b S3.length, .d d, .d e, .d g] with | true, some args => _ | _, _ => False) = _
  rw [h1, h2]
  simp only [and_self, true_and]
  congr; funext r S4
  show ((true = true) ∧ wMk r ((S3 ++ [Sl.ow (.obj cn [] [])]).set S3.length (S4.getD 0 .no)).getLast? fun o => Q o ((S3 ++ [Sl.ow (.obj cn [] [])]).set S3.length (S4.getD 0 .no)).dropLast) = _
  have h3 : (S3 ++ [Sl.ow (.obj cn [] [])]).set S3.length (S4.getD 0 .no) = S3 ++ [S4.getD 0 .no] := by
    rw [List.set_append_right _ _ (Nat.le_refl _), Nat.sub_self]
    rfl
  rw [h3, List.getLast?_concat, List.dropLast_concat]
  simp only [true_and]
theorem mk_ok {o : O} {P : O → Prop} : wMk (.sh .non) (some (.ow o)) P = P o := propext Iff.rfl
theorem at_mem {α : Type} {xs : List α} {r : Int} (h0 : 0 ≤ r) (h1 : r < xs.length) : ∃ x, x ∈ xs ∧ atI xs r = some x := by
  have hj : r.toNat < xs.length := by omega
  refine ⟨xs[r.toNat], List.getElem_mem hj, ?_⟩
  unfold atI ixN
  rw [if_pos h0, if_pos h1]
  exact List.getElem?_eq_getElem hj
theorem rO_ex {x : Out O} {P : O → Prop} (h : wO x fun o _ => P o) : ∃ o, rO x = some o ∧ P o := by
  cases x with
  | ok o S => exact ⟨o, rfl, h⟩
  | exc _ _ _ _ => exact h.elim
  | bad => exact h.elim
/-! slices -/
def cutL {α : Type} (xs : List α) (lo hi : Option Int) : List α := (xs.drop (HT.sIx xs.length 0 lo)).take (HT.sIx xs.length xs.length hi - HT.sIx xs.length 0 lo)
theorem cut_map {α : Type} {f : α → D} {xs : List α} {lo hi : Option Int} : Z.cutD (xs.map f) lo hi = (cutL xs lo hi).map f := by
  unfold Z.cutD cutL
  rw [List.length_map, List.map_take, List.map_drop]
theorem sIx_pos {n d : Nat} {k : Int} (h : 0 ≤ k) : HT.sIx n d (some k) = min k.toNat n := by
  obtain ⟨j, rfl⟩ : ∃ j : Nat, k = j := ⟨k.toNat, by omega⟩
  rw [HT.sIx_nat]
  simp
theorem cutL_to {α : Type} {xs : List α} {k : Int} (h : 0 ≤ k) : cutL xs none (some k) = xs.take k.toNat := by
  unfold cutL
  rw [sIx_pos h, HT.sIx_none, List.drop_zero, Nat.sub_zero]
  rcases Nat.le_total k.toNat xs.length with h | h
  · rw [Nat.min_eq_left h]
  · rw [Nat.min_eq_right h, List.take_length, List.take_of_length_le h]
theorem cutL_from {α : Type} {xs : List α} {k : Int} (h : 0 ≤ k) : cutL xs (some k) none = xs.drop k.toNat := by
  unfold cutL
  rw [sIx_pos h, HT.sIx_none]
  rcases Nat.le_total k.toNat xs.length with h | h
  · rw [Nat.min_eq_left h]
    exact List.take_of_length_le (by rw [List.length_drop]; omega)
  · rw [Nat.min_eq_right h, List.drop_length, List.drop_of_length_le h]
    simp
theorem ls_i {ns : List Int} : lstD (iD ns) = some (ns.map .int) := rfl
theorem ls_r {ns : List (List Int)} : lstD (rD ns) = some (ns.map iD) := rfl
theorem ls_p {ns : List (Int × Int)} : lstD (pD ns) = some (ns.map Z.pairD) := rfl
theorem lst_rs {ns : List (List Int)} : O.lst ((ns.map iD).map O.sh) = rsO ns := by
  unfold rsO
  rw [List.map_map]
  rfl
theorem lst_is {ns : List Int} : O.lst ((ns.map D.int).map O.sh) = iO ns := by
  unfold iO
  rw [List.map_map]
  rfl
/-! items set in own lists -/
def wSetO (x : Option O) (d : D) (o : O) (P : O → Prop) : Prop := match x, d with
  | some (.lst os), .int n => wF (ixN os.length n) fun j => P (.lst (os.set j o))
  | _, _ => False
theorem x_set {i : Nat} {p : List Stp} {d : D} {o : O} {S : List Sl} {P : List Sl → Prop} : wSet i p d o S P = wSetO (sget S i p) d o fun o' => P (sput S i p o') := by
  unfold wSet wSetO
  cases sget S i p with
  | none => rfl
  | some x => cases x <;> cases d <;> rfl
theorem set_map {α : Type} {f : α → O} {xs : List α} {r : Int} {x : α} {P : O → Prop} : wSetO (some (.lst (xs.map f))) (.int r) (f x) P = wF (ixN xs.length r) fun j => P (.lst ((xs.set j x).map f)) := by
  show wF (ixN (xs.map f).length r) _ = _
  rw [List.length_map]
  congr
  funext j
  rw [List.map_set]
theorem set_i {ns : List Int} {r n : Int} {P : O → Prop} : wSetO (some (iO ns)) (.int r) (.sh (.int n)) P = wF (ixN ns.length r) fun j => P (iO (ns.set j n)) := set_map (f := fun n => O.sh (.int n))
theorem set_b {ns : List Bool} {r : Int} {n : Bool} {P : O → Prop} : wSetO (some (bO ns)) (.int r) (.sh (.bl n)) P = wF (ixN ns.length r) fun j => P (bO (ns.set j n)) := set_map (f := fun n => O.sh (.bl n))
theorem it_en {α : Type} {f : α → D} {xs : List α} {P : List D → Prop} (d : D) (h : lstD d = some (xs.map f)) : wF (itEn [d]) P = P ((xs.zipIdx).map fun q => D.tup [.int q.2, f q.1]) := by
  have e : ∀ (xs : List α) (n : Nat), enumFrom n (xs.map f) = (xs.zipIdx n).map fun q => D.tup [.int q.2, f q.1] := by
    intro xs
    induction xs with
    | nil => intro n; rfl
    | cons x xs ih =>
      intro n
      show D.tup [.int n, f x] :: enumFrom (n + 1) (xs.map f) = _
      rw [ih (n + 1)]
      rfl
  show wF ((lstD d).map enumD) P = _
  rw [h]
  show P (enumFrom 0 (xs.map f)) = _
  rw [e]
theorem en_i {ns : List Int} {P : List D → Prop} : wF (itEn [iD ns]) P = P ((ns.zipIdx).map fun q => D.tup [.int q.2, .int q.1]) := it_en _ rfl
theorem en_p {ns : List (Int × Int)} {P : List D → Prop} : wF (itEn [pD ns]) P = P ((ns.zipIdx).map fun q => D.tup [.int q.2, Z.pairD q.1]) := it_en _ rfl
theorem en_r {ns : List (List Int)} {P : List D → Prop} : wF (itEn [rD ns]) P = P ((ns.zipIdx).map fun q => D.tup [.int q.2, iD q.1]) := it_en _ rfl
theorem f_tupO {os : List O} {P : O → Prop} (h : os.length ≤ 16777216) : wF (dTupO os) P = P (.tup os) := by
  unfold dTupO
  rw [decide_eq_true (by rw [sl_16]; exact h)]
  rfl
theorem f_tupO2 {a b : O} {P : O → Prop} : wF (dTupO [a, b]) P = P (.tup [a, b]) := f_tupO (by simp)
theorem f_tupO3 {a b c : O} {P : O → Prop} : wF (dTupO [a, b, c]) P = P (.tup [a, b, c]) := f_tupO (by simp)
theorem f_tup2d {a b : D} {P : O → Prop} : wF (dTup [a, b]) P = P (.tup [.sh a, .sh b]) := by
  unfold dTup
  rw [decide_eq_true (by rw [sl_16]; simp)]
  rfl
theorem fr_t2 {a b : O} : fr (.tup [a, b]) = .tup [fr a, fr b] := rfl
theorem fr_t3 {a b c : O} : fr (.tup [a, b, c]) = .tup [fr a, fr b, fr c] := rfl
theorem slt_ow {os : List O} : slOf (.tup os) = .ow (.tup os) := rfl
theorem ix_t0 {a : D} {r : List D} {P : D → Prop} : wF (dIx (.tup (a :: r)) (.int 0)) P = P a := by
  show wF (atI (a :: r) 0) P = _
  rw [at_in (d := a) (by omega) (by simp)]
  rfl
theorem ix_t1 {a b : D} {r : List D} {P : D → Prop} : wF (dIx (.tup (a :: b :: r)) (.int 1)) P = P b := by
  show wF (atI (a :: b :: r) 1) P = _
  rw [at_in (d := a) (by omega) (by simp; omega)]
  rfl
theorem ix_t2 {a b c : D} {r : List D} {P : D → Prop} : wF (dIx (.tup (a :: b :: c :: r)) (.int 2)) P = P c := by
  show wF (atI (a :: b :: c :: r) 2) P = _
  rw [at_in (d := a) (by omega) (by simp; omega)]
  rfl
/-- an own tuple's parts -/
theorem wi_t0 {a : O} {r : List O} {P : Nat → Prop} : wI (some (.tup (a :: r))) (.int 0) P = P 0 := by
  show wF (ixN (a :: r).length 0) P = _
  rw [ixN_ok (by omega) (by simp)]
  rfl
theorem wi_t1 {a b : O} {r : List O} {P : Nat → Prop} : wI (some (.tup (a :: b :: r))) (.int 1) P = P 1 := by
  show wF (ixN (a :: b :: r).length 1) P = _
  rw [ixN_ok (by omega) (by simp; omega)]
  rfl
theorem og_t0 {a : O} {r : List O} : oget (.tup (a :: r)) [.ix 0] = some a := rfl
theorem og_t1 {a b : O} {r : List O} : oget (.tup (a :: b :: r)) [.ix 1] = some b := rfl
theorem op_t0 {a n : O} {r : List O} : oput (.tup (a :: r)) [.ix 0] n = .tup (n :: r) := rfl
theorem op_t1 {a b n : O} {r : List O} : oput (.tup (a :: b :: r)) [.ix 1] n = .tup (a :: n :: r) := rfl
theorem wl_some {o : O} {P : O → Prop} : wF (some o) P = P o := propext Iff.rfl
/-! == of tuples of lists -/
theorem eqB_t2 {a b c d : List Int} : eqB (.tup [iD a, iD b]) (.tup [iD c, iD d]) = some (decide (a = c) && decide (b = d)) := by
  have sh : ∀ a b : List Int, SeqAt.shaped (.tuple [pyI a, pyI b]) = true := fun a b => by
    unfold SeqAt.shaped
    have e1 : PyData.canLay0 (.tuple [pyI a, pyI b]) = true := by
      show (PyData.canLay0 (pyI a) && (PyData.canLay0 (pyI b) && true)) = true
      rw [show PyData.canLay0 (pyI a) = true from can_i a, show PyData.canLay0 (pyI b) = true from can_i b]
      rfl
    have e2 : PyData.depth (.tuple [pyI a, pyI b]) ≤ 64 := by
      show max (PyData.depth (pyI a)) (max (PyData.depth (pyI b)) 0) + 1 ≤ 64
      have := pyI_dep a
      have := pyI_dep b
      omega
    rw [e1, decide_eq_true e2]
    rfl
  have tp : ∀ a b : List Int, toPy (.tup [iD a, iD b]) = some (.tuple [pyI a, pyI b]) := fun a b => by
    show (toPyL [iD a, iD b]).map PyData.tuple = _
    show (match toPy (iD a), (match toPy (iD b), some ([] : List PyData) with | some p, some ps => some (p :: ps) | _, _ => none) with | some p, some ps => some (p :: ps) | _, _ => none).map PyData.tuple = _
    rw [toPy_i, toPy_i]
    rfl
  refine eqB_of (tp a b) (tp c d) (sh a b) (sh c d) ?_
  show (PyData.eqvAll (a.map PyData.int) (c.map PyData.int) && (PyData.eqvAll (b.map PyData.int) (d.map PyData.int) && true)) = _
  rw [eqv_i, eqv_i, Bool.and_true]
theorem f_eq_t2 {a b c d : List Int} {P : D → Prop} : wF (dEq (.tup [iD a, iD b]) (.tup [iD c, iD d])) P = P (.bl (decide (a = c) && decide (b = d))) := by
  unfold dEq
  rw [eqB_t2]
  rfl
theorem f_ne_t2 {a b c d : List Int} {P : D → Prop} : wF (dNe (.tup [iD a, iD b]) (.tup [iD c, iD d])) P = P (.bl (!(decide (a = c) && decide (b = d)))) := by
  unfold dNe
  rw [eqB_t2]
  rfl
theorem reps_t2 {a b : List Int} (ha : Small a) (hb : Small b) (hl : a.length + b.length ≤ 24000) : RepS (.tup [iD a, iD b]) := by
  have tp : toPy (.tup [iD a, iD b]) = some (.tuple [pyI a, pyI b]) := by
    show (match toPy (iD a), (match toPy (iD b), some ([] : List PyData) with | some p, some ps => some (p :: ps) | _, _ => none) with | some p, some ps => some (p :: ps) | _, _ => none).map PyData.tuple = _
    rw [toPy_i, toPy_i]
    rfl
  have c0 : PyData.canLay0 (.tuple [pyI a, pyI b]) = true := by
    show (PyData.canLay0 (pyI a) && (PyData.canLay0 (pyI b) && true)) = true
    rw [show PyData.canLay0 (pyI a) = true from can_i a, show PyData.canLay0 (pyI b) = true from can_i b]
    rfl
  have dp : PyData.depth (.tuple [pyI a, pyI b]) ≤ 60 := by
    show max (PyData.depth (pyI a)) (max (PyData.depth (pyI b)) 0) + 1 ≤ 60
    have := pyI_dep a
    have := pyI_dep b
    omega
  refine ⟨.tuple [pyI a, pyI b], tp, repOk_of c0 dp ?_ ?_ ?_, ?_, ?_, ?_⟩
  · show PyData.weightAll (a.map PyData.int) + 1 + (PyData.weightAll (b.map PyData.int) + 1 + 0) ≤ 2 ^ 20
    have := wt_i ha
    have := wt_i hb
    omega
  · show (PyData.intsShortAll 13 (a.map PyData.int) && (PyData.intsShortAll 13 (b.map PyData.int) && true)) = true
    rw [PyData.intsShortAll_ints a ha, PyData.intsShortAll_ints b hb]
    rfl
  · show (PyData.showableAll (a.map PyData.int) && (PyData.showableAll (b.map PyData.int) && true)) = true
    rw [show_i ha, show_i hb]
    rfl
  · unfold SeqAt.shaped
    rw [c0, decide_eq_true (by omega)]
    rfl
  · show (PyData.eqvAll (a.map PyData.int) (a.map PyData.int) && (PyData.eqvAll (b.map PyData.int) (b.map PyData.int) && true)) = true
    rw [eqv_i, eqv_i, decide_eq_true rfl, decide_eq_true rfl]
    rfl
  · show (noSA (a.map PyData.int) && (noSA (b.map PyData.int) && true)) = true
    rw [noS_i, noS_i]
    rfl
/-! range of a length: no cast of a length may stand in a bound -/
theorem r1_nat {n : Nat} {Q : List D → Prop} : wF (itR1 [.int (n : Int)]) Q = (n < 4611686018427387904 ∧ Q ((rng 0 (n : Int)).map .int)) := by
  rw [it_r1]
  have : (-(2 ^ 62) ≤ (n : Int) ∧ (n : Int) < 2 ^ 62) = (n < 4611686018427387904) := propext ⟨fun h => by omega, fun h => by omega⟩
  rw [this]
theorem len_r1i {ns : List Int} {Q : List D → Prop} : wF (fLen [iD ns]) (fun z => wF (itR1 [z]) Q) = (ns.length < 4611686018427387904 ∧ Q ((rng 0 (ns.length : Int)).map .int)) := f_len_i.trans r1_nat
theorem len_r1p {ns : List (Int × Int)} {Q : List D → Prop} : wF (fLen [pD ns]) (fun z => wF (itR1 [z]) Q) = (ns.length < 4611686018427387904 ∧ Q ((rng 0 (ns.length : Int)).map .int)) := f_len_p.trans r1_nat
theorem len_r1r {ns : List (List Int)} {Q : List D → Prop} : wF (fLen [rD ns]) (fun z => wF (itR1 [z]) Q) = (ns.length < 4611686018427387904 ∧ Q ((rng 0 (ns.length : Int)).map .int)) := f_len_r.trans r1_nat
/-! one statement after another, the rest kept whole -/
def kSeq (b : MS) (k : Ks) : Ks := ⟨fun S => wS b S k, k.r, k.b, k.c⟩
theorem q_seq {a b : MS} {S : List Sl} {k : Ks} : wS (sSeq a b) S k = wS a S (kSeq b k) := s_seq
theorem kq_n {b : MS} {S : List Sl} {k : Ks} : (kSeq b k).n S = wS b S k := propext Iff.rfl
theorem kq_r {b : MS} {k : Ks} : (kSeq b k).r = k.r := rfl
theorem kq_b {b : MS} {k : Ks} : (kSeq b k).b = k.b := rfl
theorem kq_c {b : MS} {k : Ks} : (kSeq b k).c = k.c := rfl
theorem seq_join {a : MS} {S : List Sl} {k : Ks} (J : List Sl → Prop) (h : wS a S ⟨J, k.r, k.b, k.c⟩) (hj : ∀ S', J S' → k.n S') : wS a S k := by
  unfold wS at *
  cases e : a S with
  | next S' => rw [e] at h; exact hj S' h
  | ret o S' => rw [e] at h; exact h
  | brk S' => rw [e] at h; exact h
  | cont S' => rw [e] at h; exact h
  | exc _ _ _ _ => rw [e] at h; exact h
  | bad => rw [e] at h; exact h
/-! own slots at any place -/
def sgetO (x : Option Sl) (p : List Stp) : Option O := match x with
  | some (.ow o) => oget o p
  | _ => none
def sputO (S : List Sl) (i : Nat) (x : Option Sl) (p : List Stp) (n : O) : List Sl := match x with
  | some (.ow o) => S.set i (.ow (oput o p n))
  | _ => S
theorem sgx {S : List Sl} {i : Nat} {p : List Stp} : sget S i p = sgetO S[i]? p := by
  unfold sget sgetO
  cases S[i]? with
  | none => rfl
  | some x => cases x <;> rfl
theorem spx {S : List Sl} {i : Nat} {p : List Stp} {n : O} : sput S i p n = sputO S i S[i]? p n := by
  unfold sput sputO
  cases S[i]? with
  | none => rfl
  | some x => cases x <;> rfl
theorem sgo {o : O} {p : List Stp} : sgetO (some (.ow o)) p = oget o p := rfl
theorem spo {S : List Sl} {i : Nat} {o n : O} {p : List Stp} : sputO S i (some (.ow o)) p n = S.set i (.ow (oput o p n)) := rfl
end Z

set_option maxHeartbeats 4000000
/-! T11: a yard made. -/
namespace W
open PySem PySem.Spec PyProof.Rows L2 Z
theorem isi_l1 {ds : List D} {P : D → Prop} : wF (dIsi (isT .lst) noO (.lst ds)) P = P (.bl true) := propext Iff.rfl
theorem put0 {o : O} : putO "kept_size" o [] [] = ((["kept_size"] : List Str), [o]) := rfl
theorem put1 {o x : O} : putO "kept_ties" o ["kept_size"] [x] = ((["kept_size", "kept_ties"] : List Str), [x, o]) := rfl
theorem put2 {o x y : O} : putO "kept_wired" o ["kept_size", "kept_ties"] [x, y] = ((["kept_size", "kept_ties", "kept_wired"] : List Str), [x, y, o]) := rfl
theorem put3 {o x y z : O} : putO "kept_near" o ["kept_size", "kept_ties", "kept_wired"] [x, y, z] = ((["kept_size", "kept_ties", "kept_wired", "kept_near"] : List Str), [x, y, z, o]) := rfl
theorem near_of_eq : f_near_of = f__law_near := rfl
theorem near_of_ok {size : Int} {n : Nat} {ts : List (Int × Int)} {Q : O → List Sl → Prop} (hs : size = n) (hn : n ≤ 60) (hl : ts.length < 100) (ht : TieOk n ts) (k : ∀ S, Q (.lst ((nearL n ts).map fun r => .sh (rowD r))) S) : wO (f_near_of [.pl (.int size), .pl (.lst (ts.map Z.pairD))]) Q := by
  rw [near_of_eq]
  exact near_ok hs hn hl ht k
def yardF : List Str := ["kept_size", "kept_ties", "kept_wired", "kept_near"]
/-- a yard's fields -/
def yardO (size : Int) (n : Nat) (ts : List (Int × Int)) (ws : List Int) : O := .obj "Yard" yardF [.sh (.int size), .lst ((srtP ts).map fun t => .sh (Z.pairD t)), .lst ((srtI ws).map shI), .lst ((nearL n ts).map fun r => .sh (rowD r))]
theorem init_ok {size : Int} {n : Nat} {ts : List (Int × Int)} {ws : List Int} {Q : O → List Sl → Prop} (hs : size = n) (hn : 1 ≤ n) (hn2 : n ≤ 60) (h : TreeOk n ts) (hw : ∀ w ∈ ws, 0 ≤ w ∧ w < size) (nd : ws.Nodup) (hl : ws.length < 4000)
    (k : Q (.sh .non) [.ow (yardO size n ts ws), .pl (.int size), .pl (.lst (ts.map Z.pairD)), .pl (.lst (ws.map .int))]) : wO (f_Yard___init__ [.ow (.obj "Yard" [] []), .pl (.int size), .pl (.lst (ts.map Z.pairD)), .pl (.lst (ws.map .int))]) Q := by
  have hlen := tree_len h
  unfold f_Yard___init__
  rw [wO_mk]
  unfold m_Yard___init__
  simp only [s_seq, s_if, w_mOr, w_mNot, w_mTst, w_mFr, s_next]
  refine c_pure1 (d := .int size) (by simp [w_mVar, v_pl]) (is_integer_ok fun S => ?_)
  simp only [fr, b_bl]
  refine ⟨fun z => (by cases z), fun _ => ?_⟩
  simp only [w_mCh, w_mVar, w_mC]
  simp only [List.cons_append, List.getElem?_cons_succ, List.getElem?_cons_zero, v_pl, f_le, b_bl, wF_some]
  refine ⟨fun _ => ?_, fun z => absurd z (by simp; omega)⟩
  refine ⟨fun z => absurd z (by simp; omega), fun _ => ?_⟩
  simp only [w_m1x, w_m2x, w_mVar, w_mC, w_mCons, List.getElem?_cons_succ, List.getElem?_cons_zero, v_pl, isi_lt, b_bl, f_len, f_sub, f_gt, List.length_map]
  rw [isi_l1]
  simp only [b_bl]
  refine ⟨fun z => (by cases z), fun _ => ?_⟩
  refine ⟨fun z => absurd z (by simp; omega), fun _ => ?_⟩
  refine c_pure2 (d := .lst (ws.map .int)) (e := .int size) (by simp [w_mVar, v_pl]) (by simp [w_mVar, v_pl]) (are_posts_ok hw nd hl fun S => ?_)
  simp only [fr, b_bl]
  refine ⟨fun z => (by cases z), fun _ => ?_⟩
  simp only [s_drop]
  refine c_pure2 (d := .int size) (e := .lst (ts.map Z.pairD)) (by simp [w_mVar, v_pl]) (by simp [w_mVar, v_pl]) (check_tree_ok hs hn hn2 h fun S => ?_)
  simp only [s_setF, w_mSh, w_mVar, w_pVar, w_m1x, w_mCons, w_mC, List.getElem?_cons_succ, List.getElem?_cons_zero, v_pl, o_ow, sg0, og_nil, sp0, op_nil, wSF, f_sortI, f_sortQ, put0, put1, put2]
  refine ⟨⟨trivial, by decide⟩, ⟨trivial, by decide⟩, ⟨trivial, by decide⟩, ?_⟩
  refine c_pure2 (d := .int size) (e := .lst (ts.map Z.pairD)) (by simp [w_mVar, v_pl]) (by simp [w_mVar, v_pl]) (near_of_ok hs hn2 (by omega) (tree_tie h) fun S => ?_)
  exact ⟨⟨rfl, by decide⟩, by
    have e : O.lst ((srtP ts).map fun t => O.sh (Z.pairD t)) = O.lst (List.map O.sh (List.map Z.pairD (srtP ts))) := by rw [List.map_map]; rfl
    unfold yardO at k
    rw [e] at k
    exact k⟩
end W

/-! T12: a tree with a root: parents, ranks; connected sets have one top. -/
namespace W
open PySem PySem.Spec PyProof.Rows L2 Z
/-- tied -/
def Adj (ts : List (Int × Int)) (u v : Int) : Prop := (u, v) ∈ ts ∨ (v, u) ∈ ts
structure RT (n : Nat) (A : Int → Int → Prop) where
  root : Int
  par : Int → Int
  rk : Int → Nat
  rin : 0 ≤ root ∧ root < n
  up : ∀ v : Int, 0 ≤ v → v < n → v ≠ root → (0 ≤ par v ∧ par v < n) ∧ rk (par v) < rk v
  inj : ∀ u v : Int, 0 ≤ u → u < n → 0 ≤ v → v < n → rk u = rk v → u = v
  adj : ∀ u v : Int, 0 ≤ u → u < n → 0 ≤ v → v < n → (A u v ↔ (u ≠ root ∧ par u = v) ∨ (v ≠ root ∧ par v = u))
theorem tie_pair (order ps : List Int) (k : Nat) : tieAt order ps k = (order.getD (k + 1) 0, order.getD (ps.getD k 0).toNat 0) ∨ tieAt order ps k = (order.getD (ps.getD k 0).toNat 0, order.getD (k + 1) 0) := by
  unfold tieAt
  simp only
  split
  · exact .inl rfl
  · exact .inr rfl
theorem tree_rt {n : Nat} {ts : List (Int × Int)} (h : TreeOk n ts) (hn : 1 ≤ n) : Nonempty (RT n (Adj ts)) := by
  obtain ⟨order, ps, ho, hl, hp, ht⟩ := h
  have nd : order.Nodup := ho.nodup_iff.mpr (upto_nodup n)
  have hol : order.length = n := by rw [ho.length_eq, upto_len]
  have ix : ∀ v : Int, 0 ≤ v → v < n → order.idxOf v < n ∧ order.getD (order.idxOf v) 0 = v := fun v h0 h1 => by
    have hm : v ∈ order := ho.mem_iff.mpr (upto_mem.mpr ⟨h0, h1⟩)
    have hlt := List.idxOf_lt_length_of_mem hm
    refine ⟨by omega, ?_⟩
    rw [List.getD_eq_getElem?_getD, List.getElem?_eq_getElem hlt, List.getElem_idxOf hlt]
    rfl
  have xi : ∀ k, k < n → order.idxOf (order.getD k 0) = k := fun k hk => by
    obtain ⟨x, _, hx, hx0, hx1⟩ := ord_at ho hk
    rw [hx]
    have := ix x hx0 hx1
    exact ord_inj ho this.1 hk (by rw [this.2, hx])
  refine ⟨⟨order.getD 0 0, fun v => order.getD (ps.getD (order.idxOf v - 1) 0).toNat 0, fun v => order.idxOf v, ?_, ?_, ?_, ?_⟩⟩
  · obtain ⟨x, _, hx, hx0, hx1⟩ := ord_at ho (k := 0) (by omega)
    rw [hx]; exact ⟨hx0, hx1⟩
  · intro v h0 h1 hr
    obtain ⟨hi, he⟩ := ix v h0 h1
    have hpos : order.idxOf v ≠ 0 := fun z => hr (by rw [z] at he; exact he.symm)
    have hpk := par_at hp (k := order.idxOf v - 1) (by omega)
    obtain ⟨y, _, hy, hy0, hy1⟩ := ord_at ho (k := (ps.getD (order.idxOf v - 1) 0).toNat) (by omega)
    refine ⟨by rw [hy]; exact ⟨hy0, hy1⟩, ?_⟩
    rw [xi _ (by omega)]
    omega
  · intro u v hu0 hu1 hv0 hv1 e
    rw [← (ix u hu0 hu1).2, ← (ix v hv0 hv1).2, e]
  · intro u v hu0 hu1 hv0 hv1
    have key : ∀ a b : Int, 0 ≤ a → a < n → 0 ≤ b → b < n → ((a ≠ order.getD 0 0 ∧ order.getD (ps.getD (order.idxOf a - 1) 0).toNat 0 = b) ↔ ∃ k, k < n - 1 ∧ order.getD (k + 1) 0 = a ∧ order.getD (ps.getD k 0).toNat 0 = b) := by
      intro a b ha0 ha1 hb0 hb1
      obtain ⟨hi, he⟩ := ix a ha0 ha1
      constructor
      · rintro ⟨hr, hb⟩
        have hpos : order.idxOf a ≠ 0 := fun z => hr (by rw [z] at he; exact he.symm)
        refine ⟨order.idxOf a - 1, by omega, ?_, hb⟩
        rw [show order.idxOf a - 1 + 1 = order.idxOf a by omega]
        exact he
      · rintro ⟨k, hk, h1, h2⟩
        have hix : order.idxOf a = k + 1 := by rw [← h1]; exact xi _ (by omega)
        refine ⟨fun z => ?_, by rw [hix]; exact h2⟩
        have := xi 0 (by omega)
        rw [← z, hix] at this
        omega
    have hmem : ∀ t : Int × Int, t ∈ ts ↔ ∃ k, k < n - 1 ∧ tieAt order ps k = t := fun t => by
      rw [ht.mem_iff]
      unfold mkTies
      rw [List.mem_map]
      exact ⟨fun ⟨k, h1, h2⟩ => ⟨k, List.mem_range.mp h1, h2⟩, fun ⟨k, h1, h2⟩ => ⟨k, List.mem_range.mpr h1, h2⟩⟩
    rw [key u v hu0 hu1 hv0 hv1, key v u hv0 hv1 hu0 hu1]
    unfold Adj
    rw [hmem, hmem]
    constructor
    · rintro (⟨k, hk, e⟩ | ⟨k, hk, e⟩) <;> rcases tie_pair order ps k with q | q <;> rw [q] at e <;> simp only [Prod.mk.injEq] at e
      · exact .inl ⟨k, hk, e.1, e.2⟩
      · exact .inr ⟨k, hk, e.2, e.1⟩
      · exact .inr ⟨k, hk, e.1, e.2⟩
      · exact .inl ⟨k, hk, e.2, e.1⟩
    · rintro (⟨k, hk, e1, e2⟩ | ⟨k, hk, e1, e2⟩) <;> rcases tie_pair order ps k with q | q
      · exact .inl ⟨k, hk, by rw [q, e1, e2]⟩
      · exact .inr ⟨k, hk, by rw [q, e1, e2]⟩
      · exact .inr ⟨k, hk, by rw [q, e1, e2]⟩
      · exact .inl ⟨k, hk, by rw [q, e1, e2]⟩
/-- posts of n -/
def InN (n : Nat) (L : List Int) : Prop := ∀ v ∈ L, 0 ≤ v ∧ v < (n : Int)
/-- one post of L has no parent in L -/
def OneTop {n : Nat} {A : Int → Int → Prop} (T : RT n A) (L : List Int) : Prop := ∃ t ∈ L, (t = T.root ∨ T.par t ∉ L) ∧ ∀ v ∈ L, v ≠ t → v ≠ T.root ∧ T.par v ∈ L
section
variable {n : Nat} {A : Int → Int → Prop} (T : RT n A)
theorem RT.below {L : List Int} (hL : InN n L) {t : Int} (h : ∀ v ∈ L, v ≠ t → v ≠ T.root ∧ T.par v ∈ L) : ∀ (m : Nat) (v : Int), T.rk v ≤ m → v ∈ L → v ≠ t → T.rk t < T.rk v
  | m, v, hm, hv, ht => by
    obtain ⟨h1, h2⟩ := h v hv ht
    obtain ⟨_, h3⟩ := T.up v (hL v hv).1 (hL v hv).2 h1
    by_cases e : T.par v = t
    · rw [e] at h3; exact h3
    · cases m with
      | zero => omega
      | succ m =>
        have := RT.below hL h m (T.par v) (by omega) h2 e
        omega
theorem RT.adj_ne {u v : Int} (hu : 0 ≤ u ∧ u < n) (h : (u ≠ T.root ∧ T.par u = v)) : T.rk v < T.rk u := by
  have := (T.up u hu.1 hu.2 h.1).2
  rw [h.2] at this
  exact this
/-- what is next to v within L -/
def NbIn (A : Int → Int → Prop) (L N : List Int) (v : Int) : Prop := N.Nodup ∧ ∀ u, u ∈ N ↔ (u ∈ L ∧ A v u)
theorem len_one {N : List Int} (nd : N.Nodup) {x : Int} (hx : x ∈ N) (h : ∀ y ∈ N, y = x) : N.length = 1 := by
  cases N with
  | nil => cases hx
  | cons a r =>
    cases r with
    | nil => rfl
    | cons b r =>
      have e1 := h a List.mem_cons_self
      have e2 := h b (List.mem_cons_of_mem _ List.mem_cons_self)
      exact absurd (e1.trans e2.symm) fun e => (List.nodup_cons.mp nd).1 (e ▸ List.mem_cons_self)
theorem max_of {α : Type} (f : α → Nat) : ∀ (L : List α), L ≠ [] → ∃ v ∈ L, ∀ u ∈ L, f u ≤ f v
  | [], h => absurd rfl h
  | [a], _ => ⟨a, List.mem_cons_self, fun u hu => by simp at hu; rw [hu]; exact Nat.le_refl _⟩
  | a :: b :: r, _ => by
    obtain ⟨v, hv, h⟩ := max_of f (b :: r) (fun z => nomatch z)
    by_cases hc : f v ≤ f a
    · exact ⟨a, List.mem_cons_self, fun u hu => (List.mem_cons.mp hu).elim (fun e => e ▸ Nat.le_refl _) fun hu => Nat.le_trans (h u hu) hc⟩
    · exact ⟨v, List.mem_cons_of_mem _ hv, fun u hu => (List.mem_cons.mp hu).elim (fun e => by rw [e]; omega) fun hu => h u hu⟩
/-- a connected set of two posts or more has an end -/
theorem end_exists {L : List Int} (hL : InN n L) (nd : L.Nodup) (hc : OneTop T L) (h2 : 1 < L.length) (N : Int → List Int) (hN : ∀ v ∈ L, NbIn A L (N v) v) : ∃ v ∈ L, (N v).length = 1 := by
  obtain ⟨t, ht, h3, h4⟩ := hc
  have hne : L ≠ [] := fun z => by rw [z] at h2; simp at h2
  obtain ⟨v, hv, hmax⟩ := max_of T.rk L hne
  have hvt : v ≠ t := fun e => by
    subst e
    have : ∃ w ∈ L, w ≠ v := by
      cases L with
      | nil => cases hv
      | cons a r =>
        cases r with
        | nil => simp at h2
        | cons b r =>
          by_cases e : a = v
          · refine ⟨b, List.mem_cons_of_mem _ List.mem_cons_self, fun z => ?_⟩
            rw [← e] at z
            exact (List.nodup_cons.mp nd).1 (z ▸ List.mem_cons_self)
          · exact ⟨a, List.mem_cons_self, e⟩
    obtain ⟨w, hw, hwv⟩ := this
    have := T.below hL h4 (T.rk w) w (Nat.le_refl _) hw hwv
    have := hmax w hw
    omega
  obtain ⟨h5, h6⟩ := h4 v hv hvt
  obtain ⟨n1, n2⟩ := hN v hv
  have av : ∀ u : Int, 0 ≤ u → u < n → (A v u ↔ (v ≠ T.root ∧ T.par v = u) ∨ (u ≠ T.root ∧ T.par u = v)) := fun u h0 h1 => T.adj v u (hL v hv).1 (hL v hv).2 h0 h1
  refine ⟨v, hv, len_one n1 (x := T.par v) ((n2 _).mpr ⟨h6, (av _ (hL _ h6).1 (hL _ h6).2).mpr (.inl ⟨h5, rfl⟩)⟩) fun y hy => ?_⟩
  obtain ⟨y1, y2⟩ := (n2 y).mp hy
  rcases (av y (hL y y1).1 (hL y y1).2).mp y2 with ⟨_, e⟩ | e
  · exact e.symm
  · have := T.adj_ne (hL y y1) e
    have := hmax y y1
    omega
/-- an end taken out: connected still -/
theorem end_out {L : List Int} (hL : InN n L) (nd : L.Nodup) (hc : OneTop T L) {v : Int} (hv : v ∈ L) {N : List Int} (hN : NbIn A L N v) (h1 : N.length = 1) : OneTop T (L.erase v) := by
  obtain ⟨t, ht, h3, h4⟩ := hc
  obtain ⟨n1, n2⟩ := hN
  obtain ⟨c, rfl⟩ : ∃ c, N = [c] := by
    cases N with
    | nil => cases h1
    | cons c r => cases r with
      | nil => exact ⟨c, rfl⟩
      | cons _ _ => simp at h1
  have me : ∀ w, w ∈ L.erase v ↔ w ≠ v ∧ w ∈ L := fun w => nd.mem_erase_iff
  have hn : ∀ u, (u ∈ L ∧ A v u) ↔ u = c := fun u => by rw [← n2 u]; simp
  have hcL := (hn c).mpr rfl
  have av : ∀ u, u ∈ L → (A v u ↔ (v ≠ T.root ∧ T.par v = u) ∨ (u ≠ T.root ∧ T.par u = v)) := fun u hu => T.adj v u (hL v hv).1 (hL v hv).2 (hL u hu).1 (hL u hu).2
  by_cases hvt : v = t
  · have hcc : c ≠ T.root ∧ T.par c = v := by
      rcases (av c hcL.1).mp hcL.2 with e | e
      · rcases h3 with e3 | e3
        · exact absurd (hvt.trans e3) e.1
        · rw [← hvt, e.2] at e3
          exact absurd hcL.1 e3
      · exact e
    have hcv : c ≠ v := fun e => by
      have := T.adj_ne (hL c hcL.1) hcc
      rw [e] at this
      omega
    refine ⟨c, (me c).mpr ⟨hcv, hcL.1⟩, .inr fun z => ((me _).mp z).1 hcc.2, fun w hw hwc => ?_⟩
    obtain ⟨w1, w2⟩ := (me w).mp hw
    obtain ⟨w3, w4⟩ := h4 w w2 (fun e => w1 (e.trans hvt.symm))
    refine ⟨w3, (me _).mpr ⟨fun e => ?_, w4⟩⟩
    exact hwc ((hn w).mp ⟨w2, (av w w2).mpr (.inr ⟨w3, e⟩)⟩)
  · obtain ⟨v1, v2⟩ := h4 v hv hvt
    have hcp : T.par v = c := (hn _).mp ⟨v2, (av _ v2).mpr (.inl ⟨v1, rfl⟩)⟩
    refine ⟨t, (me t).mpr ⟨Ne.symm hvt, ht⟩, ?_, fun w hw hwt => ?_⟩
    · rcases h3 with e | e
      · exact .inl e
      · exact .inr fun z => e ((me _).mp z).2
    · obtain ⟨w1, w2⟩ := (me w).mp hw
      obtain ⟨w3, w4⟩ := h4 w w2 hwt
      refine ⟨w3, (me _).mpr ⟨fun e => ?_, w4⟩⟩
      have e1 := (hn w).mp ⟨w2, (av w w2).mpr (.inr ⟨w3, e⟩)⟩
      have e2 := T.adj_ne (hL w w2) ⟨w3, e⟩
      have e3 := T.adj_ne (hL v hv) ⟨v1, hcp⟩
      rw [e1] at e2
      omega
/-- a post next to one of a connected set is put to it -/
theorem top_grow {L : List Int} (hL : InN n L) (hc : OneTop T L) {u p : Int} (hu : u ∈ L) (hp : 0 ≤ p ∧ p < n) (hpL : p ∉ L) (ha : A u p) {M : List Int} (hM : ∀ w, w ∈ M ↔ w ∈ L ∨ w = p) : OneTop T M := by
  obtain ⟨t, ht, h3, h4⟩ := hc
  have hlow : ∀ w ∈ L, T.rk t ≤ T.rk w := fun w hw => by
    by_cases e : w = t
    · rw [e]; exact Nat.le_refl _
    · exact Nat.le_of_lt (T.below hL h4 _ w (Nat.le_refl _) hw e)
  rcases (T.adj u p (hL u hu).1 (hL u hu).2 hp.1 hp.2).mp ha with e | e
  · -- p is u's parent: u is the top
    have hut : u = t := Decidable.byContradiction fun z => hpL (e.2 ▸ (h4 u hu z).2)
    have lt := T.adj_ne (hL u hu) e
    refine ⟨p, (hM p).mpr (.inr rfl), ?_, fun w hw hwp => ?_⟩
    · by_cases hr : p = T.root
      · exact .inl hr
      · refine .inr fun z => ?_
        have l2 := (T.up p hp.1 hp.2 hr).2
        rcases (hM _).mp z with z | z
        · have := hlow _ z
          rw [hut] at lt
          omega
        · rw [z] at l2; omega
    · rcases (hM w).mp hw with z | z
      · by_cases ew : w = t
        · rw [ew, ← hut]
          exact ⟨e.1, (hM _).mpr (.inr e.2)⟩
        · exact ⟨(h4 w z ew).1, (hM _).mpr (.inl (h4 w z ew).2)⟩
      · exact absurd z hwp
  · have lt := T.adj_ne hp e
    refine ⟨t, (hM t).mpr (.inl ht), ?_, fun w hw hwt => ?_⟩
    · rcases h3 with h3 | h3
      · exact .inl h3
      · by_cases hr : t = T.root
        · exact .inl hr
        · refine .inr fun z => ?_
          rcases (hM _).mp z with z | z
          · exact h3 z
          · have l2 := (T.up t (hL t ht).1 (hL t ht).2 hr).2
            rw [z] at l2
            have := hlow u hu
            omega
    · rcases (hM w).mp hw with z | z
      · exact ⟨(h4 w z hwt).1, (hM _).mpr (.inl (h4 w z hwt).2)⟩
      · rw [z]
        exact ⟨e.1, (hM _).mpr (.inl (e.2 ▸ hu))⟩
theorem top_one {x : Int} (hx : 0 ≤ x ∧ x < n) : OneTop T [x] := by
  refine ⟨x, List.mem_cons_self, ?_, fun v hv hne => absurd (by simpa using hv) hne⟩
  by_cases h : x = T.root
  · exact .inl h
  · refine .inr fun z => ?_
    have := (T.up x hx.1 hx.2 h).2
    have e : T.par x = x := by simpa using z
    rw [e] at this
    omega
theorem top_all {L : List Int} (hL : ∀ v, v ∈ L ↔ 0 ≤ v ∧ v < (n : Int)) : OneTop T L := ⟨T.root, (hL _).mpr T.rin, .inl rfl, fun v hv hne => ⟨hne, (hL _).mpr (T.up v ((hL v).mp hv).1 ((hL v).mp hv).2 hne).1⟩⟩
theorem top_mem {L M : List Int} (h : ∀ w, w ∈ M ↔ w ∈ L) (hc : OneTop T L) : OneTop T M := by
  obtain ⟨t, ht, h3, h4⟩ := hc
  exact ⟨t, (h t).mpr ht, h3.imp id (fun z y => z ((h _).mp y)), fun v hv hne => ⟨(h4 v ((h v).mp hv) hne).1, (h _).mpr (h4 v ((h v).mp hv) hne).2⟩⟩
end
/-! what near_of tells -/
/-- a post's neighbours -/
def nb (nr : List (List Int)) (v : Int) : List Int := nr.getD v.toNat []
theorem nbrs_mem : ∀ {ts : List (Int × Int)} {v : Nat} {u : Int}, (∀ t ∈ ts, t.1 ≠ t.2) → (u ∈ nbrs ts v ↔ Adj ts (v : Int) u)
  | [], v, u, _ => by simp [nbrs, Adj]
  | t :: ts, v, u, h => by
    have ih := nbrs_mem (ts := ts) (v := v) (u := u) fun s hs => h s (List.mem_cons_of_mem _ hs)
    have ht := h t List.mem_cons_self
    unfold nbrs Adj at ih ⊢
    rw [List.flatMap_cons, List.mem_append, ih]
    obtain ⟨a, b⟩ := t
    simp only [List.mem_cons, Prod.mk.injEq] at *
    split
    · rename_i e
      simp only [List.mem_cons, List.not_mem_nil, or_false]
      grind
    · split
      · simp only [List.mem_cons, List.not_mem_nil, or_false]
        grind
      · simp only [List.not_mem_nil, false_or]
        grind
end W

/-! T13: neighbours; what is given by small defs; a yard as a value. -/
namespace W
open PySem PySem.Spec PyProof.Rows L2 Z
local macro_rules | `(tactic| walk_at "w") => `(tactic| simp only [w_mC, w_mVar, w_m2x, w_m1x, w_mTst, w_mAnd, w_mOr, w_mNot, w_mIf, w_mBl, w_mFr, w_mSh, w_mCons, w_mRd, w_mRv, w_pVar, w_pIx, w_mCh, w_mYes', w_m2N, w_m1N, w_mStar, w_mSeq, w_mSl, w_mPart, x_mLook, x_mUse, x_mMov, x_mItV, x_mut, x_comp,
  s_next, s_seq, s_if, s_ret, s_asg, s_sto, s_own, s_drop, s_setI, s_augI, s_aug, s_bad, s_retN, s_brk, s_cnt, s_par, s_for,
  x_call1, x_call2, x_call3, x_call4, x_call5, x_call1s, x_call2s, x_call2t, x_call3s, x_call3t, x_call3u, x_call1b, x_call2b, x_call3b, x_call4b, x_meth0, x_meth1, x_meth2, x_meth1s,
  f_add, f_sub, f_lt, f_le, f_gt, f_ge, f_mod, f_div, f_mul, f_eq, f_ne, f_neg, b_bl, l_sh, v_pl, o_ow, o_own, a_pl, k_pl, k_ow, u_pl, u_ow, mv_pl, mv_ow, i1_int, par2_ok, wF_some, g_nm, f_tp, g_cons, g_nil, wF_map,
  fr_i, fr_p, fr_rs, fr_b, fr_sh, sl_i, sl_p, sl_rs, sl_b, sl_sh, itv_i, itv_p, itv_rs, sq_i, sq_p, sq_r, is_i, is_p, is_r, il_i, il_p, il_rs, il_b,
  m_app_i, m_app_p, m_app_rs, m_app_b, m_rev_i, m_clr_i, m_rem_i, f_len_i, f_len_p, f_len_r, f_in_i, f_ni_i, f_ix_i, f_ix_p, f_ix_r, f_ix_b, p_fst, p_snd, f_list_i, f_list_t, f_list_r, mk_i, mk_p, mk_r, f_srt_i, f_srt_p, f_rev_i, f_rev_p, f_cat_i, f_cat_r, f_cat_p, f_rep_i, minL_map, maxL_map, sum_map, all_map, any_map, f_int1, f_intB, f_max2, f_min2,
  it_r1, it_r2, f_rg, itL_i, itL_p, itL_r, itL_b, itS_i, itS_r, f_lstM, f_lst0, f_lst1, f_lst2, f_lst3, f_lst4, f_lst5, f_lst6, f_lstr1, f_lstr2, f_eq_i, f_ne_i, f_eq_r, f_ne_r, f_eq_p, f_ne_p, f_eq_bl, f_ne_bl, rd_i, rd_b, rd_p, rd_rs, 
  isi_int, isi_int_bl, isi_tup, isi_lst, isi_lt, sg0, sg1, sg2, sg3, sg4, sg5, sg6, sg7, sg8, sg9, sg10, sg11, sg12, sg13, sg14, sg15, sp0, sp1, sp2, sp3, sp4, sp5, sp6, sp7, sp8, sp9, sp10, sp11, sp12, sp13, sp14, sp15, og_nil, op_nil, restS, wipeS,
  List.getElem?_cons_zero, List.getElem?_cons_succ, List.set_cons_zero, List.set_cons_succ, List.getD_cons_zero, List.getD_cons_succ, List.cons_append, List.nil_append, List.append_nil, List.length_cons, List.length_nil, List.replicate_succ, List.replicate_zero, Nat.reduceSub, Nat.reduceAdd, true_and, and_true])
/-! neighbours -/
theorem ties_nodup {n : Nat} {ts : List (Int × Int)} (h : TreeOk n ts) : ts.Nodup := by
  obtain ⟨order, ps, ho, hl, hp, ht⟩ := h
  refine ht.nodup_iff.mpr ?_
  unfold mkTies
  refine List.pairwise_iff_getElem.mpr fun i j hi hj hij e => ?_
  rw [List.length_map, List.length_range] at hi hj
  simp only [List.getElem_map, List.getElem_range] at e
  have hpi := par_at hp (k := i) (by omega)
  have hpj := par_at hp (k := j) (by omega)
  have inj := @ord_inj n order ho
  rcases tie_pair order ps i with q1 | q1 <;> rcases tie_pair order ps j with q2 | q2 <;> rw [q1, q2] at e <;> simp only [Prod.mk.injEq] at e
  · have := inj (k := i + 1) (j := j + 1) (by omega) (by omega) e.1
    omega
  · have h1 := inj (k := i + 1) (j := (ps.getD j 0).toNat) (by omega) (by omega) e.1
    have h2 := inj (k := (ps.getD i 0).toNat) (j := j + 1) (by omega) (by omega) e.2
    omega
  · have h1 := inj (k := i + 1) (j := (ps.getD j 0).toNat) (by omega) (by omega) e.2
    have h2 := inj (k := (ps.getD i 0).toNat) (j := j + 1) (by omega) (by omega) e.1
    omega
  · have := inj (k := i + 1) (j := j + 1) (by omega) (by omega) e.2
    omega
theorem nbrs_nodup : ∀ {ts : List (Int × Int)} {v : Nat}, (∀ t ∈ ts, t.1 < t.2) → ts.Nodup → (nbrs ts v).Nodup
  | [], v, _, _ => by simp [nbrs]
  | t :: ts, v, h, nd => by
    have h1 := List.nodup_cons.mp nd
    have ht := h t List.mem_cons_self
    have hts : ∀ s ∈ ts, s.1 < s.2 := fun s hs => h s (List.mem_cons_of_mem _ hs)
    have ih := nbrs_nodup (v := v) hts h1.2
    have hm : ∀ u, u ∈ nbrs ts v ↔ Adj ts (v : Int) u := fun u => nbrs_mem fun s hs => by have := hts s hs; omega
    unfold nbrs at ih hm ⊢
    rw [List.flatMap_cons]
    obtain ⟨a, b⟩ := t
    simp only at ht ⊢
    have no : ∀ u, (u = b ∧ a = v ∨ u = a ∧ b = v) → u ∉ ts.flatMap fun t => if t.1 = (v : Int) then [t.2] else if t.2 = (v : Int) then [t.1] else [] := by
      intro u hu z
      rcases (hm u).mp z with q | q
      · have := hts _ q
        simp only at this
        rcases hu with ⟨rfl, rfl⟩ | ⟨rfl, rfl⟩
        · exact h1.1 q
        · omega
      · have := hts _ q
        simp only at this
        rcases hu with ⟨rfl, rfl⟩ | ⟨rfl, rfl⟩
        · omega
        · exact h1.1 q
    split
    · rename_i e
      exact List.nodup_cons.mpr ⟨no b (.inl ⟨rfl, e⟩), ih⟩
    · split
      · rename_i e
        exact List.nodup_cons.mpr ⟨no a (.inr ⟨rfl, e⟩), ih⟩
      · exact ih
structure NearOk (n : Nat) (A : Int → Int → Prop) (nr : List (List Int)) : Prop where
  len : nr.length = n
  mem : ∀ v : Int, 0 ≤ v → v < n → ∀ u, u ∈ nb nr v ↔ A v u
  nd : ∀ v : Int, 0 ≤ v → v < n → (nb nr v).Nodup
  srt : ∀ v : Int, 0 ≤ v → v < n → (nb nr v).Pairwise (· ≤ ·)
  inn : ∀ v : Int, 0 ≤ v → v < n → InN n (nb nr v)
theorem sorted_lt {L : List Int} (h : L.Pairwise (· ≤ ·)) (nd : L.Nodup) : L.Pairwise (· < ·) := (h.and nd).imp fun h => by have := h.1; have := h.2; omega
theorem adj_in {n : Nat} {ts : List (Int × Int)} (h : TieOk n ts) {u v : Int} (a : Adj ts u v) : 0 ≤ v ∧ v < (n : Int) := by
  rcases a with a | a <;> have := h _ a <;> simp only at this <;> omega
theorem len_le_n {n : Nat} {L : List Int} (h : InN n L) (nd : L.Nodup) : L.length ≤ n := by
  have := sub_len (m := upto n) nd fun x hx => upto_mem.mpr (h x hx)
  rw [upto_len] at this
  exact this
theorem near_is {n : Nat} {ts : List (Int × Int)} (h : TreeOk n ts) : NearOk n (Adj ts) (nearL n ts) := by
  have ht := tree_tie h
  have hp := srtP_perm ts
  have ha : ∀ u v, Adj (srtP ts) u v ↔ Adj ts u v := fun u v => by unfold Adj; rw [hp.mem_iff, hp.mem_iff]
  have hn : ∀ v : Int, 0 ≤ v → v < n → nb (nearL n ts) v = srtI (nbrs (srtP ts) v.toNat) := fun v h0 h1 => by
    have hl : v.toNat < n := by omega
    unfold nb nearL
    rw [List.getD_eq_getElem?_getD, List.getElem?_map, List.getElem?_range hl]
    rfl
  have hm : ∀ v : Int, 0 ≤ v → v < n → ∀ u, u ∈ nb (nearL n ts) v ↔ Adj ts v u := fun v h0 h1 u => by
    rw [hn v h0 h1, (srtI_perm _).mem_iff, nbrs_mem fun t htm => (by have := ht t (hp.mem_iff.mp htm); omega), ha]
    rw [show ((v.toNat : Nat) : Int) = v by omega]
  refine ⟨by unfold nearL; rw [List.length_map, List.length_range], hm, fun v h0 h1 => ?_, fun v h0 h1 => ?_, fun v h0 h1 u hu => adj_in ht ((hm v h0 h1 u).mp hu)⟩
  · rw [hn v h0 h1]
    exact (srtI_perm _).nodup_iff.mpr (nbrs_nodup (fun t htm => (ht t (hp.mem_iff.mp htm)).2.1) (hp.nodup_iff.mpr (ties_nodup h)))
  · rw [hn v h0 h1]
    exact srtI_sorted _
/-! a yard -/
def yD (size : Int) (ts : List (Int × Int)) (ws : List Int) (nr : List (List Int)) : D := .obj "Yard" yardF [.int size, pD ts, iD ws, rD nr]
section
variable {size : Int} {ts : List (Int × Int)} {ws : List Int} {nr : List (List Int)}
theorem fr_yard {n : Nat} : fr (yardO size n ts ws) = yD size (srtP ts) (srtI ws) (nearL n ts) := by
  show D.obj "Yard" yardF [.int size, fr (pO (srtP ts)), fr (iO (srtI ws)), fr (rsO (nearL n ts))] = _
  rw [fr_p, fr_i, fr_rs]
  rfl
theorem y_size {P : D → Prop} : wF (dAtC "Yard" "kept_size" (yD size ts ws nr)) P = P (.int size) := propext Iff.rfl
theorem y_ties {P : D → Prop} : wF (dAtC "Yard" "kept_ties" (yD size ts ws nr)) P = P (pD ts) := propext Iff.rfl
theorem y_wired {P : D → Prop} : wF (dAtC "Yard" "kept_wired" (yD size ts ws nr)) P = P (iD ws) := propext Iff.rfl
theorem y_near {P : D → Prop} : wF (dAtC "Yard" "kept_near" (yD size ts ws nr)) P = P (rD nr) := propext Iff.rfl
theorem o_neighbours {P : Prop} : wOb "Yard" "neighbours" (yD size ts ws nr) P = P := by
  show ((("Yard" : Str) = "Yard" ∧ yardF.contains "neighbours" = false) ∧ P) = P
  have : yardF.contains "neighbours" = false := by decide
  simp only [this, and_self, true_and]
end
/-! small defs by what they give -/
theorem r_is_integer {n : Int} : rO (f_is_integer [.pl (.int n)]) = some (.sh (.bl true)) := rO_of (is_integer_ok fun S => rfl)
theorem r_is_post {n size : Int} : rO (f_is_post [.pl (.int n), .pl (.int size)]) = some (.sh (.bl (decide (0 ≤ n ∧ n < size)))) := rO_of (is_post_ok fun S => rfl)
theorem r_neighbours {size : Int} {ts : List (Int × Int)} {ws : List Int} {nr : List (List Int)} {p : Int} (h0 : 0 ≤ p) (h1 : p < size) (hl : nr.length = size.toNat) : rO (f_Yard_neighbours [.pl (yD size ts ws nr), .pl (.int p)]) = some (iO (nb nr p)) := by
  refine rO_of ?_
  unfold f_Yard_neighbours
  rw [wO_mk]
  unfold m_Yard_neighbours
  walk_at "w"
  rw [y_size]
  simp only [wF_some, r_is_post]
  walk_at "w"
  rw [y_near]
  have e : decide (0 ≤ p ∧ p < size) = true := decide_eq_true ⟨h0, h1⟩
  rw [e, f_ix_r, at_in (d := []) h0 (by omega)]
  walk_at "w"
  exact ⟨fun z => (by cases z), fun _ => rfl⟩
theorem r_near {size : Int} {n : Nat} {ts : List (Int × Int)} (hs : size = n) (hn : n ≤ 60) (h : TreeOk n ts) : rO (f__law_near [.pl (.int size), .pl (pD ts)]) = some (rsO (nearL n ts)) := by
  have := tree_len h
  exact rO_of (near_ok hs hn (by omega) (tree_tie h) fun S => rfl)
end W

/-! T14: sets of posts drawn. -/
namespace W
open PySem PySem.Spec PyProof.Rows L2 Z
local macro_rules | `(tactic| walk_at "w") => `(tactic| simp only [w_mC, w_mVar, w_m2x, w_m1x, w_mTst, w_mAnd, w_mOr, w_mNot, w_mIf, w_mBl, w_mFr, w_mSh, w_mCons, w_mRd, w_mRv, w_pVar, w_pIx, w_mCh, w_mYes', w_m2N, w_m1N, w_mStar, w_mSeq, w_mSl, w_mPart, x_mLook, x_mUse, x_mMov, x_mItV, x_mut, x_comp,
  s_next, s_seq, s_if, s_ret, s_asg, s_sto, s_own, s_drop, s_setI, s_augI, s_aug, s_bad, s_retN, s_brk, s_cnt, s_par, s_for,
  x_call1, x_call2, x_call3, x_call4, x_call5, x_call1s, x_call2s, x_call2t, x_call3s, x_call3t, x_call3u, x_call1b, x_call2b, x_call3b, x_call4b, x_meth0, x_meth1, x_meth2, x_meth1s,
  f_add, f_sub, f_lt, f_le, f_gt, f_ge, f_mod, f_div, f_mul, f_eq, f_ne, f_neg, b_bl, l_sh, v_pl, o_ow, o_own, a_pl, k_pl, k_ow, u_pl, u_ow, mv_pl, mv_ow, i1_int, par2_ok, wF_some, g_nm, f_tp, g_cons, g_nil, wF_map,
  fr_i, fr_p, fr_rs, fr_b, fr_sh, sl_i, sl_p, sl_rs, sl_b, sl_sh, itv_i, itv_p, itv_rs, sq_i, sq_p, sq_r, is_i, is_p, is_r, il_i, il_p, il_rs, il_b,
  m_app_i, m_app_p, m_app_rs, m_app_b, m_rev_i, m_clr_i, m_rem_i, f_len_i, f_len_p, f_len_r, f_in_i, f_ni_i, f_ix_i, f_ix_p, f_ix_r, f_ix_b, p_fst, p_snd, f_list_i, f_list_t, f_list_r, mk_i, mk_p, mk_r, f_srt_i, f_srt_p, f_rev_i, f_rev_p, f_cat_i, f_cat_r, f_cat_p, f_rep_i, minL_map, maxL_map, sum_map, all_map, any_map, f_int1, f_intB, f_max2, f_min2,
  it_r1, it_r2, f_rg, itL_i, itL_p, itL_r, itL_b, itS_i, itS_r, f_lstM, f_lst0, f_lst1, f_lst2, f_lst3, f_lst4, f_lst5, f_lst6, f_lstr1, f_lstr2, f_eq_i, f_ne_i, f_eq_r, f_ne_r, f_eq_p, f_ne_p, f_eq_bl, f_ne_bl, rd_i, rd_b, rd_p, rd_rs, y_size, y_ties, y_wired, y_near, o_neighbours,
  isi_int, isi_int_bl, isi_tup, isi_lst, isi_lt, sg0, sg1, sg2, sg3, sg4, sg5, sg6, sg7, sg8, sg9, sg10, sg11, sg12, sg13, sg14, sg15, sp0, sp1, sp2, sp3, sp4, sp5, sp6, sp7, sp8, sp9, sp10, sp11, sp12, sp13, sp14, sp15, og_nil, op_nil, restS, wipeS,
  List.getElem?_cons_zero, List.getElem?_cons_succ, List.set_cons_zero, List.set_cons_succ, List.getD_cons_zero, List.getD_cons_succ, List.cons_append, List.nil_append, List.append_nil, List.length_cons, List.length_nil, List.replicate_succ, List.replicate_zero, Nat.reduceSub, Nat.reduceAdd, true_and, and_true])
theorem t_take {B : O} {m : Int} {Q : O → List Sl → Prop} (hB : BagOk B) (hm : 1 ≤ m ∧ m < 2 ^ 200) (k : ∀ (r : Int) (B' : O) (S : List Sl), 0 ≤ r → r < m → BagOk B' → S.getD 0 .no = .ow B' → Q (.sh (.int r)) S) : wO (f__law_take [.ow B, .pl (.int m)]) Q := by
  obtain ⟨a, b, c, cells, ha, hb, hc, hcs, rfl⟩ := hB
  exact take_ok ha hb hc hcs hm fun r a' b' c' S h1 h2 h3 h4 h5 h6 => k r _ S h1 h2 ⟨a', b', c', cells, h3, h4, h5, hcs, rfl⟩ h6
/-- a position: different posts, ascending -/
def PosOk (n : Nat) (L : List Int) : Prop := InN n L ∧ L.Pairwise (· < ·)
theorem PosOk.nd {n : Nat} {L : List Int} (h : PosOk n L) : L.Nodup := h.2.imp fun h e => by omega
theorem PosOk.len {n : Nat} {L : List Int} (h : PosOk n L) : L.length ≤ n := len_le_n h.1 h.nd
theorem rng_take {lo hi : Int} {i : Nat} {x : Int} (h : (rng lo hi)[i]? = some x) : (rng lo hi).take (i + 1) = (rng lo hi).take i ++ [x] := by
  obtain ⟨hl, he⟩ := List.getElem?_eq_some_iff.mp h
  rw [List.take_succ_eq_append_getElem hl, he]
def someI (size : Int) (n : Nat) (a b : D) (i : Nat) (acc : List D) (S : List Sl) : Prop := ∃ (B : O) (L : List Int), S = [.ow B, .pl (.int size), .pl a, .pl b, .no] ∧ BagOk B ∧ acc = L.map D.int ∧ L.Sublist ((rng 0 size).take i)
theorem t_some {B : O} {size : Int} {n : Nat} {Q : O → List Sl → Prop} (hB : BagOk B) (hs : size = n) (h1 : 1 ≤ n) (h2 : n ≤ 60) (k : ∀ (L : List Int) (B' : O) (S : List Sl), PosOk n L → BagOk B' → S.getD 0 .no = .ow B' → Q (iO L) S) : wO (f__law_some [.ow B, .pl (.int size)]) Q := by
  unfold f__law_some
  rw [wO_mk]
  unfold m__law_some
  walk_at "w"
  refine t_take hB (by omega) fun way B1 S1 w0 w1 hB1 e1 => ?_
  simp only [e1]
  walk_at "w"
  refine ⟨fun _ => ?_, fun hw => ?_⟩
  · refine t_take hB1 (by omega) fun r B2 S2 r0 r1 hB2 e2 => ?_
    simp only [e2]
    walk_at "w"
    exact k [r] B2 _ ⟨fun v hv => by simp at hv; omega, by simp⟩ hB2 rfl
  · rw [at_in (d := 0) w0 (by simp; omega)]
    walk_at "w"
    refine ⟨by omega, ⟨by simp [rng_len]; omega, rfl⟩, ?_⟩
    generalize ([0, 4, 0, 1, 2, 3] : List Int).getD way.toNat 0 = part
    refine cmp_I (someI size n (.int way) (.int part)) ⟨B1, [], rfl, hB1, rfl, by simp⟩ ?_ ?_
    · rintro i x acc S hx ⟨B2, L, rfl, hB2, rfl, hL⟩
      walk_at "w"
      refine t_take hB2 (by omega) fun r B3 S3 r0 r1 hB3 e3 => ?_
      simp only [e3]
      walk_at "w"
      refine ⟨fun _ => ⟨B3, L ++ [x], rfl, hB3, by simp, ?_⟩, fun _ => ⟨B3, L, rfl, hB3, rfl, ?_⟩⟩
      · rw [rng_take hx]; exact hL.append (List.Sublist.refl _)
      · rw [rng_take hx]; exact hL.trans (List.sublist_append_left _ _)
    · rintro ys S ⟨B2, L, rfl, hB2, rfl, hL⟩
      have e : O.lst ((L.map D.int).map O.sh) = iO L := by unfold iO; rw [List.map_map]; rfl
      rw [e]
      have hL2 : L.Sublist (rng 0 size) := hL.trans (List.take_sublist _ _)
      exact k L B2 _ ⟨fun v hv => by have := rng_mem.mp (hL2.mem hv); omega, rng_sorted.sublist hL2⟩ hB2 rfl
/-- a connected set's making -/
def grownI {n : Nat} {A : Int → Int → Prop} (T : RT n A) (nr : List (List Int)) (many : Int) (i : Nat) (S : List Sl) : Prop := ∃ (B : O) (L : List Int) (a b c : Sl), S = [.ow B, .pl (rD nr), .pl (.int many), .ow (iO L), a, b, c] ∧ BagOk B ∧ InN n L ∧ L.Nodup ∧ L ≠ [] ∧ OneTop T L
theorem t_grown {B : O} {many : Int} {n : Nat} {A : Int → Int → Prop} (T : RT n A) {nr : List (List Int)} {Q : O → List Sl → Prop} (hB : BagOk B) (hn : NearOk n A nr) (h1 : 1 ≤ n) (h2 : n ≤ 60) (hm : 0 ≤ many ∧ many < 1000) (k : ∀ (L : List Int) (B' : O) (S : List Sl), PosOk n L → L ≠ [] → OneTop T L → BagOk B' → S.getD 0 .no = .ow B' → Q (iO L) S) : wO (f__law_grown [.ow B, .pl (rD nr), .pl (.int many)]) Q := by
  have hl := hn.len
  unfold f__law_grown
  rw [wO_mk]
  unfold m__law_grown
  walk_at "w"
  refine t_take hB (by omega) fun x B1 S1 x0 x1 hB1 e1 => ?_
  simp only [e1]
  walk_at "w"
  refine ⟨by omega, ?_⟩
  refine for_map (grownI T nr many) ⟨B1, [x], _, _, _, rfl, hB1, fun v hv => by simp at hv; omega, by simp, by simp, top_one T (by omega)⟩ ?_ ?_
  · rintro i j S hj ⟨B2, L, a, b, c, rfl, hB2, hL, nd, hne, ht⟩
    have hlen : 0 < L.length := List.length_pos_iff.mpr hne
    have hle := len_le_n hL nd
    walk_at "w"
    refine t_take hB2 (by omega) fun r B3 S3 r0 r1 hB3 e3 => ?_
    simp only [e3]
    walk_at "w"
    rw [at_in (d := 0) r0 r1]
    walk_at "w"
    have hu : L.getD r.toNat 0 ∈ L := by
      have hj : r.toNat < L.length := by omega
      rw [List.getD_eq_getElem?_getD, List.getElem?_eq_getElem hj]
      exact List.getElem_mem hj
    generalize L.getD r.toNat 0 = u at hu
    have hu2 := hL u hu
    rw [at_in (d := []) hu2.1 (by omega)]
    walk_at "w"
    refine ⟨fun hne2 => ?_, fun _ => ⟨B3, L, _, _, _, rfl, hB3, hL, nd, hne, ht⟩⟩
    have hnb : nr.getD u.toNat [] = nb nr u := rfl
    rw [hnb] at hne2 ⊢
    have hpos : 0 < (nb nr u).length := List.length_pos_iff.mpr (by simpa using hne2)
    have hsm := len_le_n (hn.inn u hu2.1 hu2.2) (hn.nd u hu2.1 hu2.2)
    refine t_take hB3 (by omega) fun q B4 S4 q0 q1 hB4 e4 => ?_
    simp only [e4]
    walk_at "w"
    rw [at_in (d := 0) q0 q1]
    walk_at "w"
    have hp : (nb nr u).getD q.toNat 0 ∈ nb nr u := by
      have hj : q.toNat < (nb nr u).length := by omega
      rw [List.getD_eq_getElem?_getD, List.getElem?_eq_getElem hj]
      exact List.getElem_mem hj
    generalize (nb nr u).getD q.toNat 0 = p at hp
    have hp2 := hn.inn u hu2.1 hu2.2 p hp
    refine ⟨fun hnp => ⟨by omega, B4, L ++ [p], _, _, _, rfl, hB4, ?_, ?_, by simp, ?_⟩, fun _ => ⟨B4, L, _, _, _, rfl, hB4, hL, nd, hne, ht⟩⟩
    · intro v hv
      rcases List.mem_append.mp hv with h | h
      · exact hL v h
      · simp at h; rw [h]; exact hp2
    · have : p ∉ L := by simpa using hnp
      exact List.nodup_append.mpr ⟨nd, by simp, fun a ha b hb => by simp at hb; rw [hb]; exact fun e => this (e ▸ ha)⟩
    · exact top_grow T hL ht hu hp2 (by simpa using hnp) ((hn.mem u hu2.1 hu2.2 p).mp hp) (fun w => by simp)
  · rintro S ⟨B2, L, a, b, c, rfl, hB2, hL, nd, hne, ht⟩
    walk_at "w"
    have hp := srtI_perm L
    refine k (srtI L) B2 _ ⟨fun v hv => hL v (hp.mem_iff.mp hv), sorted_lt (srtI_sorted L) (hp.nodup_iff.mpr nd)⟩ ?_ (top_mem T (fun w => hp.mem_iff) ht) hB2 rfl
    intro z
    rw [z] at hp
    exact hne hp.symm.eq_nil
end W

/-! T15: rows of groups. -/
namespace W
open PySem PySem.Spec PyProof.Rows L2 Z
local macro_rules | `(tactic| walk_at "w") => `(tactic| simp only [w_mC, w_mVar, w_m2x, w_m1x, w_mTst, w_mAnd, w_mOr, w_mNot, w_mIf, w_mBl, w_mFr, w_mSh, w_mCons, w_mRd, w_mRv, w_pVar, w_pIx, w_mCh, w_mYes', w_m2N, w_m1N, w_mStar, w_mSeq, w_mSl, w_mPart, x_mLook, x_mUse, x_mMov, x_mItV, x_mut, x_comp,
  s_next, s_seq, s_if, s_ret, s_asg, s_sto, s_own, s_drop, s_setI, s_augI, s_aug, s_bad, s_retN, s_brk, s_cnt, s_par, s_for,
  x_call1, x_call2, x_call3, x_call4, x_call5, x_call1s, x_call2s, x_call2t, x_call3s, x_call3t, x_call3u, x_call1b, x_call2b, x_call3b, x_call4b, x_meth0, x_meth1, x_meth2, x_meth1s,
  f_add, f_sub, f_lt, f_le, f_gt, f_ge, f_mod, f_div, f_mul, f_eq, f_ne, f_neg, b_bl, l_sh, v_pl, o_ow, o_own, a_pl, k_pl, k_ow, u_pl, u_ow, mv_pl, mv_ow, i1_int, par2_ok, wF_some, g_nm, f_tp, g_cons, g_nil, wF_map,
  fr_i, fr_p, fr_rs, fr_b, fr_sh, sl_i, sl_p, sl_rs, sl_b, sl_sh, itv_i, itv_p, itv_rs, sq_i, sq_p, sq_r, is_i, is_p, is_r, il_i, il_p, il_rs, il_b,
  m_app_i, m_app_p, m_app_rs, m_app_b, m_rev_i, m_clr_i, m_rem_i, f_len_i, f_len_p, f_len_r, f_in_i, f_ni_i, f_ix_i, f_ix_p, f_ix_r, f_ix_b, p_fst, p_snd, f_list_i, f_list_t, f_list_r, mk_i, mk_p, mk_r, f_srt_i, f_srt_p, f_rev_i, f_rev_p, f_cat_i, f_cat_r, f_cat_p, f_rep_i, minL_map, maxL_map, sum_map, all_map, any_map, f_int1, f_intB, f_max2, f_min2,
  it_r1, it_r2, f_rg, itL_i, itL_p, itL_r, itL_b, itS_i, itS_r, f_lstM, f_lst0, f_lst1, f_lst2, f_lst3, f_lst4, f_lst5, f_lst6, f_lstr1, f_lstr2, f_eq_i, f_ne_i, f_eq_r, f_ne_r, f_eq_p, f_ne_p, f_eq_bl, f_ne_bl, rd_i, rd_b, rd_p, rd_rs, y_size, y_ties, y_wired, y_near, o_neighbours,
  isi_int, isi_int_bl, isi_tup, isi_lst, isi_lt, sg0, sg1, sg2, sg3, sg4, sg5, sg6, sg7, sg8, sg9, sg10, sg11, sg12, sg13, sg14, sg15, sp0, sp1, sp2, sp3, sp4, sp5, sp6, sp7, sp8, sp9, sp10, sp11, sp12, sp13, sp14, sp15, og_nil, op_nil, restS, wipeS,
  List.getElem?_cons_zero, List.getElem?_cons_succ, List.set_cons_zero, List.set_cons_succ, List.getD_cons_zero, List.getD_cons_succ, List.cons_append, List.nil_append, List.append_nil, List.length_cons, List.length_nil, List.replicate_succ, List.replicate_zero, Nat.reduceSub, Nat.reduceAdd, true_and, and_true])
def endsOf (nr : List (List Int)) (L : List Int) : List Int := L.filter fun p => decide ((((nb nr p).filter fun q => decide (q ∈ L)).length : Int) = 1)
/-- the row: taken so far, left -/
def rowOf (nr : List (List Int)) : Nat → List Int → List Int → List Int
  | 0, L, tk => tk ++ L ++ tk.reverse
  | k + 1, L, tk => if 1 < L.length then rowOf nr k (L.erase ((endsOf nr L).headD 0)) (tk ++ [(endsOf nr L).headD 0]) else tk ++ L ++ tk.reverse
theorem rowOf_stop {nr : List (List Int)} {k : Nat} {L tk : List Int} (h : ¬ 1 < L.length) : rowOf nr k L tk = tk ++ L ++ tk.reverse := by
  cases k with
  | zero => rfl
  | succ k => unfold rowOf; rw [if_neg h]
theorem headD_min {L : List Int} (h : L.Pairwise (· < ·)) (hne : L ≠ []) : minL L = some (L.headD 0) := by
  cases L with
  | nil => exact absurd rfl hne
  | cons a r =>
    have key : ∀ (r : List Int), (∀ x ∈ r, a < x) → r.foldl (fun a b => if b < a then b else a) a = a := by
      intro r
      induction r with
      | nil => intro _; rfl
      | cons b r ih =>
        intro hr
        have hb := hr b List.mem_cons_self
        rw [List.foldl_cons, if_neg (by omega)]
        exact ih fun x hx => hr x (List.mem_cons_of_mem _ hx)
    show some (r.foldl _ a) = some a
    rw [key r (List.pairwise_cons.mp h).1]
theorem head_mem {L : List Int} (hne : L ≠ []) : L.headD 0 ∈ L := by
  cases L with
  | nil => exact absurd rfl hne
  | cons a r => exact List.mem_cons_self
theorem at_head {L : List Int} (hne : L ≠ []) : atI L 0 = some (L.headD 0) := by
  cases L with
  | nil => exact absurd rfl hne
  | cons a r =>
    rw [at_in (d := 0) (by omega) (by simp)]
    rfl
section
variable {n : Nat} {A : Int → Int → Prop} {nr : List (List Int)}
theorem nbIn (hn : NearOk n A nr) {L : List Int} (hL : InN n L) {v : Int} (hv : v ∈ L) : NbIn A L ((nb nr v).filter fun q => decide (q ∈ L)) v := by
  obtain ⟨h0, h1⟩ := hL v hv
  refine ⟨(hn.nd v h0 h1).sublist List.filter_sublist, fun u => ?_⟩
  rw [List.mem_filter, decide_eq_true_eq, hn.mem v h0 h1 u]
  exact And.comm
theorem ends_ne (T : RT n A) (hn : NearOk n A nr) {L : List Int} (hL : PosOk n L) (hc : OneTop T L) (h2 : 1 < L.length) : endsOf nr L ≠ [] := by
  obtain ⟨v, hv, h⟩ := end_exists T hL.1 hL.nd hc h2 (fun v => (nb nr v).filter fun q => decide (q ∈ L)) (fun v hv => nbIn hn hL.1 hv)
  intro z
  have : v ∈ endsOf nr L := List.mem_filter.mpr ⟨hv, decide_eq_true (by omega)⟩
  rw [z] at this
  cases this
theorem ends_head (T : RT n A) (hn : NearOk n A nr) {L : List Int} (hL : PosOk n L) (hc : OneTop T L) (hne : endsOf nr L ≠ []) : (endsOf nr L).headD 0 ∈ L ∧ PosOk n (L.erase ((endsOf nr L).headD 0)) ∧ OneTop T (L.erase ((endsOf nr L).headD 0)) := by
  obtain ⟨h1, h2⟩ := List.mem_filter.mp (head_mem hne)
  have h3 : ((nb nr ((endsOf nr L).headD 0)).filter fun q => decide (q ∈ L)).length = 1 := by
    have : ((((nb nr ((endsOf nr L).headD 0)).filter fun q => decide (q ∈ L)).length : Nat) : Int) = 1 := of_decide_eq_true h2
    omega
  exact ⟨h1, ⟨fun v hv => hL.1 v (List.mem_of_mem_erase hv), hL.2.sublist List.erase_sublist⟩, end_out T hL.1 hL.nd hc h1 (nbIn hn hL.1 h1) h3⟩
def growI (T : RT n A) (nr : List (List Int)) (y : D) (G : List Int) (m : Nat) (S : List Sl) : Prop := ∃ (L tk : List Int) (e : Sl), S = [.pl y, .pl (iD G), .ow (iO L), .ow (iO tk), e, .no, .no] ∧ L.length = m ∧ PosOk n L ∧ OneTop T L ∧ tk.length + L.length = G.length ∧ (∃ k, L.length ≤ k ∧ rowOf nr k L tk = rowOf nr G.length G []) ∧ L ≠ []
theorem r_group_row (T : RT n A) (hn : NearOk n A nr) (h60 : n ≤ 60) {size : Int} {ts : List (Int × Int)} {ws G : List Int} (hs : size = n) (hG : PosOk n G) (hne : G ≠ []) (hc : OneTop T G) : rO (f_group_row [.pl (yD size ts ws nr), .pl (iD G)]) = some (iO (rowOf nr G.length G [])) := by
  have hl := hn.len
  have hG60 := hG.len
  refine rO_of ?_
  unfold f_group_row
  rw [wO_mk]
  unfold m_group_row
  walk_at "w"
  refine s_while (growI T nr (yD size ts ws nr) G) (m := G.length) (show G.length < 100000 by omega) ⟨G, [], _, rfl, rfl, hG, hc, by simp, ⟨G.length, Nat.le_refl _, rfl⟩, hne⟩ ?_
  rintro m S ⟨L, tk, e, rfl, rfl, hL, ht, hlen, ⟨k, hk, hrow⟩, hLne⟩
  have hL60 := hL.len
  walk_at "w"
  refine ⟨fun h2 => ?_, fun h2 => ?_⟩
  · have h2' : 1 < L.length := by have := of_decide_eq_true h2; omega
    refine ⟨⟨by simp; omega, rfl⟩, ?_⟩
    have hee := ends_ne T hn hL ht h2'
    obtain ⟨e1, e2, e3⟩ := ends_head T hn hL ht hee
    refine cmp_f (fun p => decide ((((nb nr p).filter fun q => decide (q ∈ L)).length : Int) = 1)) (fun p hp => ?_) ?_
    · obtain ⟨p0, p1⟩ := hL.1 p hp
      walk_at "w"
      rw [r_neighbours p0 (by omega) (by omega)]
      walk_at "w"
      refine ⟨⟨?_, rfl⟩, ?_⟩
      · have := len_le_n (hn.inn p p0 p1) (hn.nd p p0 p1)
        simp; omega
      · refine cmp_f (fun q => decide (q ∈ L)) (fun q hq => ?_) ?_
        · walk_at "w"
          simp
        · walk_at "w"
          simp
    · walk_at "w"
      have hd : (L.filter fun p => decide ((((nb nr p).filter fun q => decide (q ∈ L)).length : Int) = 1)) = endsOf nr L := rfl
      rw [hd, at_head hee]
      walk_at "w"
      have hl2 : (L.erase ((endsOf nr L).headD 0)).length = L.length - 1 := List.length_erase_of_mem e1
      refine ⟨by omega, e1, L.length - 1, by omega, _, _, _, rfl, hl2, e2, e3, by rw [List.length_append, hl2]; simp only [List.length_cons, List.length_nil]; omega, ⟨k - 1, by omega, ?_⟩, fun z => by have := congrArg List.length z; rw [hl2, List.length_nil] at this; omega⟩
      rw [← hrow]
      obtain ⟨k', rfl⟩ : ∃ k', k = k' + 1 := ⟨k - 1, by omega⟩
      show _ = if 1 < L.length then _ else _
      rw [if_pos h2']
      rfl
  · have h2' : ¬ 1 < L.length := by have := of_decide_eq_false h2; omega
    simp only [← List.map_append, List.map_nil, List.append_nil]
    walk_at "w"
    refine ⟨by simp; omega, ?_⟩
    rw [← hrow, rowOf_stop h2']
    simp
end
end W

/-! T16: the bag's making; two alike things. -/
namespace W
open PySem PySem.Spec PyProof.Rows L2 Z
local macro_rules | `(tactic| walk_at "w") => `(tactic| simp only [w_mC, w_mVar, w_m2x, w_m1x, w_mTst, w_mAnd, w_mOr, w_mNot, w_mIf, w_mBl, w_mFr, w_mSh, w_mCons, w_mRd, w_mRv, w_pVar, w_pIx, w_mCh, w_mYes', w_m2N, w_m1N, w_mStar, w_mSeq, w_mSl, w_mPart, x_mLook, x_mUse, x_mMov, x_mItV, x_mut, x_comp,
  s_next, s_seq, s_if, s_ret, s_asg, s_sto, s_own, s_drop, s_setI, s_augI, s_aug, s_bad, s_retN, s_brk, s_cnt, s_par, s_for,
  x_call1, x_call2, x_call3, x_call4, x_call5, x_call1s, x_call2s, x_call2t, x_call3s, x_call3t, x_call3u, x_call1b, x_call2b, x_call3b, x_call4b, x_meth0, x_meth1, x_meth2, x_meth1s,
  f_add, f_sub, f_lt, f_le, f_gt, f_ge, f_mod, f_div, f_mul, f_eq, f_ne, f_neg, b_bl, l_sh, v_pl, o_ow, o_own, a_pl, k_pl, k_ow, u_pl, u_ow, mv_pl, mv_ow, i1_int, par2_ok, wF_some, g_nm, f_tp, g_cons, g_nil, wF_map,
  fr_i, fr_p, fr_rs, fr_b, fr_sh, sl_i, sl_p, sl_rs, sl_b, sl_sh, itv_i, itv_p, itv_rs, sq_i, sq_p, sq_r, is_i, is_p, is_r, il_i, il_p, il_rs, il_b,
  m_app_i, m_app_p, m_app_rs, m_app_b, m_rev_i, m_clr_i, m_rem_i, f_len_i, f_len_p, f_len_r, f_in_i, f_ni_i, f_ix_i, f_ix_p, f_ix_r, f_ix_b, p_fst, p_snd, f_list_i, f_list_t, f_list_r, mk_i, mk_p, mk_r, f_srt_i, f_srt_p, f_rev_i, f_rev_p, f_cat_i, f_cat_r, f_cat_p, f_rep_i, minL_map, maxL_map, sum_map, all_map, any_map, f_int1, f_intB, f_max2, f_min2,
  it_r1, it_r2, f_rg, itL_i, itL_p, itL_r, itL_b, itS_i, itS_r, f_lstM, f_lst0, f_lst1, f_lst2, f_lst3, f_lst4, f_lst5, f_lst6, f_lstr1, f_lstr2, f_eq_i, f_ne_i, f_eq_r, f_ne_r, f_eq_p, f_ne_p, f_eq_bl, f_ne_bl, rd_i, rd_b, rd_p, rd_rs, y_size, y_ties, y_wired, y_near, o_neighbours,
  isi_int, isi_int_bl, isi_tup, isi_lst, isi_lt, sg0, sg1, sg2, sg3, sg4, sg5, sg6, sg7, sg8, sg9, sg10, sg11, sg12, sg13, sg14, sg15, sp0, sp1, sp2, sp3, sp4, sp5, sp6, sp7, sp8, sp9, sp10, sp11, sp12, sp13, sp14, sp15, og_nil, op_nil, restS, wipeS,
  List.getElem?_cons_zero, List.getElem?_cons_succ, List.set_cons_zero, List.set_cons_succ, List.getD_cons_zero, List.getD_cons_succ, List.cons_append, List.nil_append, List.append_nil, List.length_cons, List.length_nil, List.replicate_succ, List.replicate_zero, Nat.reduceSub, Nat.reduceAdd, true_and, and_true])
theorem cut63 {ds : List D} {P : O → Prop} : wF (mkL true (Z.cutD ds none (some 63))) P = P (.lst ((ds.take 63).map .sh)) := by
  have e : Z.cutD ds none (some 63) = ds.take 63 := by
    unfold Z.cutD
    have h1 : HT.sIx ds.length 0 none = 0 := rfl
    have h2 : HT.sIx ds.length ds.length (some 63) = min 63 ds.length := HT.sIx_nat _ _ 63
    rw [h1, h2, List.drop_zero, Nat.sub_zero]
    rcases Nat.le_total 63 ds.length with h | h
    · rw [Nat.min_eq_left h]
    · rw [Nat.min_eq_right h, List.take_length, List.take_of_length_le h]
  rw [e]
  rfl
theorem abs_i {n : Int} {P : D → Prop} : wF (fAbs [.int n]) P = P (.int n.natAbs) := by
  show P (.int (if n < 0 then -n else n)) = _
  congr 2
  split <;> omega
theorem t_bag {ns : List Int} {Q : O → List Sl → Prop} (k : ∀ (B : O) (S : List Sl), BagOk B → Q B S) : wO (f__law_bag [.pl (.fls (ns.map .int))]) Q := by
  unfold f__law_bag
  rw [wO_mk]
  unfold m__law_bag
  walk_at "w"
  have e0 : lstD (.fls (ns.map D.int)) = some (ns.map D.int) := rfl
  rw [e0]
  walk_at "w"
  rw [cut63]
  have e1 : fr (O.lst (((ns.map D.int).take 63).map O.sh)) = iD (ns.take 63) := by
    rw [← List.map_take, List.map_map]
    exact fr_i
  rw [e1]
  walk_at "w"
  refine ⟨⟨by simp; omega, rfl⟩, ?_⟩
  refine cmp_i (fun _ => true) (fun n => (n.natAbs : Int)) (fun x hx => ?_) ?_
  · walk_at "w"
    rw [abs_i]
    simp
  · walk_at "w"
    rw [List.filter_eq_self.mpr (fun _ _ => rfl)]
    have e2 : ∀ P : O → Prop, wF (dLst [D.int 0, D.int 1234567891, D.int 0, iD ((ns.take 63).map fun n => (n.natAbs : Int))]) P = P (bagO 0 1234567891 0 ((ns.take 63).map fun n => (n.natAbs : Int))) := fun P => by
      rw [dlst_ok (by simp)]
      rfl
    rw [e2]
    exact k _ _ ⟨0, 1234567891, 0, _, by omega, by omega, by omega, fun x hx => by obtain ⟨y, _, rfl⟩ := List.mem_map.mp hx; omega, rfl⟩
theorem r_alike {d : D} (h : RepS d) : rO (f__law_alike [.pl d, .pl d]) = some (.sh (.bl true)) := by
  obtain ⟨x, hx, e⟩ := f_repr h
  have h1 : ∀ P : D → Prop, wF (dEq d d) P = P (.bl true) := fun P => by
    obtain ⟨p, h1, h2, h3, h4, h5⟩ := h
    exact rep_eq ⟨p, h1, h2, h3, h4⟩
  refine rO_of ?_
  unfold f__law_alike
  rw [wO_mk]
  unfold m__law_alike
  walk_at "w"
  rw [h1]
  walk_at "w"
  rw [e]
  walk_at "w"
  rw [f_eq_s rfl hx]
  walk_at "w"
  exact ⟨fun _ => trivial, fun z => (by cases z)⟩
theorem small_n {n : Nat} {L : List Int} (h : InN n L) (h60 : n ≤ 60) : Small L := fun x hx => by
  have := h x hx
  omega
theorem reps_pos {n : Nat} {L : List Int} (h : InN n L) (h60 : n ≤ 60) (hl : L.length ≤ 24000) : RepS (iD L) := reps_i (small_n h h60) hl
section
variable {n : Nat} {A : Int → Int → Prop} {nr : List (List Int)}
theorem rowOf_ok (T : RT n A) (hn : NearOk n A nr) : ∀ (k : Nat) (L tk : List Int), L.length ≤ k → PosOk n L → OneTop T L → L ≠ [] → InN n tk → (rowOf nr k L tk).length = 2 * (tk.length + L.length) - 1 ∧ InN n (rowOf nr k L tk)
  | 0, L, tk, hk, _, _, hne, _ => absurd (List.eq_nil_of_length_eq_zero (by omega)) hne
  | k + 1, L, tk, hk, hL, hc, hne, ht => by
    have hpos : 0 < L.length := List.length_pos_iff.mpr hne
    by_cases h2 : 1 < L.length
    · have hee := ends_ne T hn hL hc h2
      obtain ⟨e1, e2, e3⟩ := ends_head T hn hL hc hee
      have hl2 : (L.erase ((endsOf nr L).headD 0)).length = L.length - 1 := List.length_erase_of_mem e1
      have := rowOf_ok T hn k (L.erase ((endsOf nr L).headD 0)) (tk ++ [(endsOf nr L).headD 0]) (by omega) e2 e3 (fun z => by have := congrArg List.length z; rw [hl2, List.length_nil] at this; omega) (fun v hv => (List.mem_append.mp hv).elim (ht v) fun h => by
        have : v = (endsOf nr L).headD 0 := by simpa using h
        rw [this]; exact hL.1 _ e1)
      unfold rowOf
      rw [if_pos h2]
      refine ⟨?_, this.2⟩
      rw [this.1, hl2, List.length_append]
      simp only [List.length_cons, List.length_nil]
      omega
    · rw [rowOf_stop h2]
      refine ⟨by simp; omega, fun v hv => ?_⟩
      simp only [List.mem_append, List.mem_reverse] at hv
      rcases hv with (hv | hv) | hv
      · exact ht v hv
      · exact hL.1 v hv
      · exact ht v hv
end
end W

/-! T17: the law k32. -/
namespace W
open PySem PySem.Spec PyProof.Rows L2 Z
local macro_rules | `(tactic| walk_at "w") => `(tactic| simp only [w_mC, w_mVar, w_m2x, w_m1x, w_mTst, w_mAnd, w_mOr, w_mNot, w_mIf, w_mBl, w_mFr, w_mSh, w_mCons, w_mRd, w_mRv, w_pVar, w_pIx, w_mCh, w_mYes', w_m2N, w_m1N, w_mStar, w_mSeq, w_mSl, w_mPart, x_mLook, x_mUse, x_mMov, x_mItV, x_mut, x_comp,
  s_next, s_seq, s_if, s_ret, s_asg, s_sto, s_own, s_drop, s_setI, s_augI, s_aug, s_bad, s_retN, s_brk, s_cnt, s_par, s_for,
  x_call1, x_call2, x_call3, x_call4, x_call5, x_call1s, x_call2s, x_call2t, x_call3s, x_call3t, x_call3u, x_call1b, x_call2b, x_call3b, x_call4b, x_meth0, x_meth1, x_meth2, x_meth1s, x_mk, mk_ok, cut_map, ls_i, ls_r, ls_p, lst_rs, lst_is,
  f_add, f_sub, f_lt, f_le, f_gt, f_ge, f_mod, f_div, f_mul, f_eq, f_ne, f_neg, b_bl, l_sh, v_pl, o_ow, o_own, a_pl, k_pl, k_ow, u_pl, u_ow, mv_pl, mv_ow, i1_int, par2_ok, wF_some, g_nm, f_tp, g_cons, g_nil, wF_map,
  fr_i, fr_p, fr_rs, fr_b, fr_sh, sl_i, sl_p, sl_rs, sl_b, sl_sh, itv_i, itv_p, itv_rs, sq_i, sq_p, sq_r, is_i, is_p, is_r, il_i, il_p, il_rs, il_b,
  m_app_i, m_app_p, m_app_rs, m_app_b, m_rev_i, m_clr_i, m_rem_i, f_len_i, f_len_p, f_len_r, f_in_i, f_ni_i, f_ix_i, f_ix_p, f_ix_r, f_ix_b, p_fst, p_snd, f_list_i, f_list_t, f_list_r, mk_i, mk_p, mk_r, f_srt_i, f_srt_p, f_rev_i, f_rev_p, f_cat_i, f_cat_r, f_cat_p, f_rep_i, minL_map, maxL_map, sum_map, all_map, any_map, f_int1, f_intB, f_max2, f_min2,
  it_r1, it_r2, f_rg, itL_i, itL_p, itL_r, itL_b, itS_i, itS_r, f_lstM, f_lst0, f_lst1, f_lst2, f_lst3, f_lst4, f_lst5, f_lst6, f_lstr1, f_lstr2, f_eq_i, f_ne_i, f_eq_r, f_ne_r, f_eq_p, f_ne_p, f_eq_bl, f_ne_bl, rd_i, rd_b, rd_p, rd_rs, y_size, y_ties, y_wired, y_near, o_neighbours,
  isi_int, isi_int_bl, isi_tup, isi_lst, isi_lt, sg0, sg1, sg2, sg3, sg4, sg5, sg6, sg7, sg8, sg9, sg10, sg11, sg12, sg13, sg14, sg15, sp0, sp1, sp2, sp3, sp4, sp5, sp6, sp7, sp8, sp9, sp10, sp11, sp12, sp13, sp14, sp15, og_nil, op_nil, restS, wipeS,
  List.getElem?_cons_zero, List.getElem?_cons_succ, List.set_cons_zero, List.set_cons_succ, List.getD_cons_zero, List.getD_cons_succ, List.cons_append, List.nil_append, List.append_nil, List.length_cons, List.length_nil, List.replicate_succ, List.replicate_zero, Nat.reduceSub, Nat.reduceAdd, true_and, and_true])
theorem bag_sl {B : O} (h : BagOk B) : slOf B = .ow B := by
  obtain ⟨a, b, c, cells, _, _, _, _, rfl⟩ := h
  rfl
theorem t_ties {B : O} {size : Int} {Q : O → List Sl → Prop} (hB : BagOk B) (hs : 1 ≤ size ∧ size ≤ 60) (k : ∀ (ts : List (Int × Int)) (B' : O) (S : List Sl), TreeOk size.toNat ts → BagOk B' → S.getD 0 .no = .ow B' → Q (pO ts) S) : wO (f__law_ties [.ow B, .pl (.int size)]) Q :=
  ties_ok hB hs fun ts B' S h1 h2 h3 => by
    have := k ts B' S h1 h2 h3
    unfold pO at this
    rw [List.map_map]
    exact this
theorem t_init {size : Int} {n : Nat} {ts : List (Int × Int)} {ws : List Int} {Q : O → List Sl → Prop} (hs : size = n) (hn : 1 ≤ n) (hn2 : n ≤ 60) (h : TreeOk n ts) (hw : PosOk n ws) (k : ∀ S, S.getD 0 .no = .ow (yardO size n ts ws) → Q (.sh .non) S) : wO (f_Yard___init__ [.ow (.obj "Yard" [] []), .pl (.int size), .pl (pD ts), .pl (iD ws)]) Q :=
  init_ok hs hn hn2 h (fun w hw' => by have := hw.1 w hw'; omega) hw.nd (by have := hw.len; omega) (k _ rfl)
end W

/-! T18: what a post sees; wires drawn; sums of sets. -/
namespace Z
open PySem PySem.Spec PyProof.Rows L2
theorem f_in_b {n : Int} {ns : List Int} {P : Bool → Prop} : wF (dIn (.int n) (iD ns)) (fun d => wB d P) = P (decide (n ∈ ns)) := by
  rw [f_in_i]
  rfl
end Z
namespace W
open PySem PySem.Spec PyProof.Rows L2 Z
local macro_rules | `(tactic| walk_at "w") => `(tactic| simp only [w_mC, w_mVar, w_m2x, w_m1x, w_mTst, w_mAnd, w_mOr, w_mNot, w_mIf, w_mBl, w_mFr, w_mSh, w_mCons, w_mRd, w_mRv, w_pVar, w_pIx, w_mCh, w_mYes', w_m2N, w_m1N, w_mStar, w_mSeq, w_mSl, w_mPart, x_mLook, x_mUse, x_mMov, x_mItV, x_mut, x_comp,
  s_next, s_seq, s_if, s_ret, s_asg, s_sto, s_own, s_drop, s_setI, s_augI, s_aug, s_bad, s_retN, s_brk, s_cnt, s_par, s_for,
  x_call1, x_call2, x_call3, x_call4, x_call5, x_call1s, x_call2s, x_call2t, x_call3s, x_call3t, x_call3u, x_call1b, x_call2b, x_call3b, x_call4b, x_meth0, x_meth1, x_meth2, x_meth1s, x_mk, mk_ok, cut_map, ls_i, ls_r, ls_p, lst_rs, lst_is,
  f_add, f_sub, f_lt, f_le, f_gt, f_ge, f_mod, f_div, f_mul, f_eq, f_ne, f_neg, b_bl, l_sh, v_pl, o_ow, o_own, a_pl, k_pl, k_ow, u_pl, u_ow, mv_pl, mv_ow, i1_int, par2_ok, wF_some, g_nm, f_tp, g_cons, g_nil, wF_map,
  fr_i, fr_p, fr_rs, fr_b, fr_sh, sl_i, sl_p, sl_rs, sl_b, sl_sh, itv_i, itv_p, itv_rs, sq_i, sq_p, sq_r, is_i, is_p, is_r, il_i, il_p, il_rs, il_b,
  m_app_i, m_app_p, m_app_rs, m_app_b, m_rev_i, m_clr_i, m_rem_i, f_len_i, f_len_p, f_len_r, f_in_i, f_ni_i, f_ix_i, f_ix_p, f_ix_r, f_ix_b, p_fst, p_snd, f_list_i, f_list_t, f_list_r, mk_i, mk_p, mk_r, f_srt_i, f_srt_p, f_rev_i, f_rev_p, f_cat_i, f_cat_r, f_cat_p, f_rep_i, minL_map, maxL_map, sum_map, all_map, any_map, f_int1, f_intB, f_max2, f_min2,
  it_r1, it_r2, f_rg, itL_i, itL_p, itL_r, itL_b, itS_i, itS_r, f_lstM, f_lst0, f_lst1, f_lst2, f_lst3, f_lst4, f_lst5, f_lst6, f_lstr1, f_lstr2, f_eq_i, f_ne_i, f_eq_r, f_ne_r, f_eq_p, f_ne_p, f_eq_bl, f_ne_bl, rd_i, rd_b, rd_p, rd_rs, y_size, y_ties, y_wired, y_near, o_neighbours,
  isi_int, isi_int_bl, isi_tup, isi_lst, isi_lt, sg0, sg1, sg2, sg3, sg4, sg5, sg6, sg7, sg8, sg9, sg10, sg11, sg12, sg13, sg14, sg15, sp0, sp1, sp2, sp3, sp4, sp5, sp6, sp7, sp8, sp9, sp10, sp11, sp12, sp13, sp14, sp15, og_nil, op_nil, restS, wipeS,
  List.getElem?_cons_zero, List.getElem?_cons_succ, List.set_cons_zero, List.set_cons_succ, List.getD_cons_zero, List.getD_cons_succ, List.cons_append, List.nil_append, List.append_nil, List.length_cons, List.length_nil, List.replicate_succ, List.replicate_zero, Nat.reduceSub, Nat.reduceAdd, true_and, and_true])
/-- whether a post is ready -/
def sees (nr : List (List Int)) (ws up : List Int) (p : Int) : Bool := decide (((((nb nr p).filter fun q => decide (q ∈ up)).length : Int) + (if p ∈ ws then 1 else 0)) % 2 = 1)
theorem sees_ext {nr : List (List Int)} {ws ws' up up' : List Int} {p : Int} (h1 : p ∈ ws ↔ p ∈ ws') (h2 : ∀ q, q ∈ up ↔ q ∈ up') : sees nr ws up p = sees nr ws' up' p := by
  unfold sees
  simp only [h1, h2]
theorem srt_mem {L : List Int} {x : Int} : x ∈ srtI L ↔ x ∈ L := (srtI_perm L).mem_iff
theorem pos_ext {n m : Nat} {a b : List Int} (ha : PosOk n a) (hb : PosOk m b) (h : ∀ x, x ∈ a ↔ x ∈ b) : a = b :=
  List.Perm.eq_of_pairwise (le := (· < ·)) (fun x y _ _ h1 h2 => by omega) ha.2 hb.2 ((List.perm_ext_iff_of_nodup ha.nd hb.nd).mpr h)
theorem pos_srt {n : Nat} {L : List Int} (h : PosOk n L) : srtI L = L := (srtI_uniq (List.Perm.refl L) (h.2.imp fun h => by omega)).symm
theorem pos_filter {n : Nat} {L : List Int} (h : PosOk n L) (p : Int → Bool) : PosOk n (L.filter p) := ⟨fun v hv => h.1 v (List.mem_filter.mp hv).1, h.2.sublist List.filter_sublist⟩
theorem pos_rng {n : Nat} {size : Int} (hs : size = n) : PosOk n (rng 0 size) := ⟨fun v hv => by have := rng_mem.mp hv; omega, rng_sorted⟩
theorem o_size {size : Int} {ts : List (Int × Int)} {ws : List Int} {nr : List (List Int)} {P : Prop} : wOb "Yard" "size" (yD size ts ws nr) P = P := by
  show ((("Yard" : Str) = "Yard" ∧ yardF.contains "size" = false) ∧ P) = P
  have : yardF.contains "size" = false := by decide
  simp only [this, and_self, true_and]
theorem o_wired {size : Int} {ts : List (Int × Int)} {ws : List Int} {nr : List (List Int)} {P : Prop} : wOb "Yard" "wired" (yD size ts ws nr) P = P := by
  show ((("Yard" : Str) = "Yard" ∧ yardF.contains "wired" = false) ∧ P) = P
  have : yardF.contains "wired" = false := by decide
  simp only [this, and_self, true_and]
section
variable {n : Nat} {A : Int → Int → Prop} {nr : List (List Int)} {size : Int} {ts : List (Int × Int)} {ws up : List Int} {p : Int}
theorem r_size : rO (f_Yard_size [.pl (yD size ts ws nr)]) = some (.sh (.int size)) := by
  refine rO_of ?_
  unfold f_Yard_size
  rw [wO_mk]
  unfold m_Yard_size
  walk_at "w"
theorem r_wired : rO (f_Yard_wired [.pl (yD size ts ws nr)]) = some (iO ws) := by
  refine rO_of ?_
  unfold f_Yard_wired
  rw [wO_mk]
  unfold m_Yard_wired
  walk_at "w"
theorem nb_len (hn : NearOk n A nr) (hp : 0 ≤ p ∧ p < n) : (nb nr p).length ≤ n := len_le_n (hn.inn p hp.1 hp.2) (hn.nd p hp.1 hp.2)
theorem r_sees_odd (hn : NearOk n A nr) (h60 : n ≤ 60) (hs : size = n) (hp : 0 ≤ p ∧ p < n) : rO (f_sees_odd [.pl (yD size ts ws nr), .pl (iD up), .pl (.int p)]) = some (.sh (.bl (sees nr ws up p))) := by
  have hl := hn.len
  have := nb_len hn hp
  refine rO_of ?_
  unfold f_sees_odd
  rw [wO_mk]
  unfold m_sees_odd
  walk_at "w"
  rw [r_neighbours hp.1 (by omega) (by omega)]
  walk_at "w"
  refine ⟨⟨by simp; omega, rfl⟩, ?_⟩
  refine cmp_f (fun q => decide (q ∈ up)) (fun q hq => ?_) ?_
  · walk_at "w"
    simp
  · walk_at "w"
    rw [o_wired, r_wired]
    walk_at "w"
    refine ⟨by omega, ?_⟩
    unfold sees
    simp only [decide_eq_true_eq]
theorem r_law_odd (hn : NearOk n A nr) (h60 : n ≤ 60) (hp : 0 ≤ p ∧ p < n) : rO (f__law_odd [.pl (rD nr), .pl (iD ws), .pl (iD up), .pl (.int p)]) = some (.sh (.bl (sees nr ws up p))) := by
  have hl := hn.len
  have := nb_len hn hp
  refine rO_of ?_
  unfold f__law_odd
  rw [wO_mk]
  unfold m__law_odd
  walk_at "w"
  rw [at_in (d := []) hp.1 (by omega)]
  walk_at "w"
  have hnb : nr.getD p.toNat [] = nb nr p := rfl
  rw [hnb]
  refine ⟨⟨by simp; omega, rfl⟩, ?_⟩
  refine cmp_f (fun q => decide (q ∈ up)) (fun q hq => ?_) ?_
  · walk_at "w"
    simp
  · walk_at "w"
    refine ⟨by omega, ?_⟩
    unfold sees
    simp only [decide_eq_true_eq]
/-- the sum of two sets -/
def sumL (a b : List Int) : List Int := (srtI (a ++ b)).filter fun x => decide (x ∈ a) != decide (x ∈ b)
theorem sum_mem {a b : List Int} {x : Int} : x ∈ sumL a b ↔ ¬ (x ∈ a ↔ x ∈ b) := by
  unfold sumL
  rw [List.mem_filter, srt_mem, List.mem_append]
  by_cases h1 : x ∈ a <;> by_cases h2 : x ∈ b <;> simp [h1, h2]
theorem sum_nodup {a b : List Int} (ha : a.Nodup) (hb : b.Nodup) : (sumL a b).Nodup := by
  refine List.nodup_iff_count.mpr fun x => ?_
  by_cases hx : x ∈ sumL a b
  · have h := sum_mem.mp hx
    have h1 : List.count x (sumL a b) ≤ List.count x (srtI (a ++ b)) := List.Sublist.count_le x List.filter_sublist
    rw [(srtI_perm (a ++ b)).count_eq, List.count_append] at h1
    have h2 := List.nodup_iff_count.mp ha x
    have h3 := List.nodup_iff_count.mp hb x
    have h4 : x ∉ a → List.count x a = 0 := List.count_eq_zero_of_not_mem
    have h5 : x ∉ b → List.count x b = 0 := List.count_eq_zero_of_not_mem
    by_cases q1 : x ∈ a <;> by_cases q2 : x ∈ b
    · exact absurd (iff_of_true q1 q2) h
    · have := h5 q2; omega
    · have := h4 q1; omega
    · exact absurd (iff_of_false q1 q2) h
  · rw [List.count_eq_zero_of_not_mem hx]
    omega
theorem sum_pos {a b : List Int} (ha : PosOk n a) (hb : PosOk n b) : PosOk n (sumL a b) :=
  ⟨fun v hv => by
    have := sum_mem.mp hv
    by_cases h1 : v ∈ a
    · exact ha.1 v h1
    · by_cases h2 : v ∈ b
      · exact hb.1 v h2
      · exact absurd (iff_of_false h1 h2) this, sorted_lt ((srtI_sorted _).sublist List.filter_sublist) (sum_nodup ha.nd hb.nd)⟩
theorem r_law_sum {a b : List Int} (ha : a.length ≤ 60) (hb : b.length ≤ 60) : rO (f__law_sum [.pl (iD a), .pl (iD b)]) = some (iO (sumL a b)) := by
  refine rO_of ?_
  unfold f__law_sum
  rw [wO_mk]
  unfold m__law_sum
  walk_at "w"
  have := (srtI_perm (a ++ b)).length_eq
  rw [List.length_append] at this
  refine ⟨by omega, ⟨by simp; omega, rfl⟩, ?_⟩
  refine cmp_f (fun x => decide (x ∈ a) != decide (x ∈ b)) (fun q hq => ?_) rfl
  walk_at "w"
  simp
def wirI (size : Int) (nr : List (List Int)) (ws0 : List Int) (i : Nat) (S : List Sl) : Prop := ∃ (B : O) (L : List Int) (a b : Sl), S = [.ow B, .pl (.int size), .pl (rD nr), .pl (iD ws0), .ow (iO L), a, b, .no] ∧ BagOk B ∧ L.Sublist ((rng 0 size).take i)
theorem t_wires {B : O} {Q : O → List Sl → Prop} (hB : BagOk B) (hn : NearOk n A nr) (sym : ∀ u v : Int, A u v → A v u) (hs : size = n) (h1 : 1 ≤ n) (h60 : n ≤ 60) (k : ∀ (L : List Int) (B' : O) (S : List Sl), PosOk n L → BagOk B' → S.getD 0 .no = .ow B' → Q (.sh (iD L)) S) : wO (f__law_wires [.ow B, .pl (.int size), .pl (rD nr)]) Q := by
  have hl := hn.len
  unfold f__law_wires
  rw [wO_mk]
  unfold m__law_wires
  walk_at "w"
  refine t_some hB hs h1 h60 fun ws B1 S1 hw hB1 e1 => ?_
  simp only [e1]
  walk_at "w"
  refine t_take hB1 (by omega) fun r B2 S2 r0 r1 hB2 e2 => ?_
  simp only [e2]
  walk_at "w"
  have hwl := hw.len
  obtain ⟨ws2, hw2, e3⟩ : ∃ ws2, PosOk n ws2 ∧ (List.replicate ((if (decide (0 < r) : Bool) then 1 else 0 : Int)).toNat ws).flatten = ws2 := by
    by_cases hr : 0 < r
    · exact ⟨ws, hw, by simp [hr]⟩
    · exact ⟨[], ⟨fun _ z => (nomatch z), List.Pairwise.nil⟩, by simp [hr]⟩
  have e4 : -(2 ^ 63) ≤ (if (decide (0 < r) : Bool) then 1 else 0 : Int) ∧ (if (decide (0 < r) : Bool) then 1 else 0 : Int) < 2 ^ 63 ∧ ws.length * ((if (decide (0 < r) : Bool) then 1 else 0 : Int)).toNat ≤ 16777216 := by
    by_cases hr : 0 < r
    · simp [hr]; omega
    · simp [hr]
  refine ⟨e4, ?_⟩
  rw [e3]
  refine t_take hB2 (by omega) fun q B3 S3 q0 q1 hB3 e5 => ?_
  simp only [e5]
  walk_at "w"
  refine ⟨fun _ => ⟨by omega, ?_⟩, fun _ => k ws2 B3 _ hw2 hB3 rfl⟩
  refine for_map (wirI size nr ws2) ⟨B3, [], _, _, rfl, hB3, by simp⟩ ?_ ?_
  · rintro i x S hx ⟨B4, L, a, b, rfl, hB4, hL⟩
    obtain ⟨x1, x2⟩ := rng_at hx
    have hx2 : 0 ≤ x ∧ x < n := by omega
    have hLl : L.length ≤ size.toNat := by
      have h1 := hL.length_le
      have h2 := List.length_take_le i (rng 0 size)
      have h3 : ((rng 0 size).take i).length ≤ (rng 0 size).length := (List.take_sublist _ _).length_le
      rw [rng_len] at h3
      omega
    walk_at "w"
    rw [at_in (d := []) hx2.1 (by omega)]
    walk_at "w"
    have hnb : nr.getD x.toNat [] = nb nr x := rfl
    rw [hnb]
    have fin : ∀ c d : Sl, ∀ z : Int, ((decide (z ∈ ws2) = true → L.length < 16777216 ∧ wirI size nr ws2 (i + 1) [.ow B4, .pl (.int size), .pl (rD nr), .pl (iD ws2), .ow (iO (L ++ [x])), c, d, .no]) ∧ (decide (z ∈ ws2) = false → wirI size nr ws2 (i + 1) [.ow B4, .pl (.int size), .pl (rD nr), .pl (iD ws2), .ow (iO L), c, d, .no])) := fun c d z =>
      ⟨fun _ => ⟨by omega, B4, L ++ [x], c, d, rfl, hB4, by rw [rng_take hx]; exact hL.append (List.Sublist.refl _)⟩, fun _ => ⟨B4, L, c, d, rfl, hB4, by rw [rng_take hx]; exact hL.trans (List.sublist_append_left _ _)⟩⟩
    refine ⟨fun h => ?_, fun _ => fin _ _ x⟩
    have hlen : (nb nr x).length = 1 := by have := of_decide_eq_true h; omega
    obtain ⟨y, hy⟩ : ∃ y, nb nr x = [y] := by
      cases e : nb nr x with
      | nil => rw [e] at hlen; simp at hlen
      | cons y r => cases r with
        | nil => exact ⟨y, rfl⟩
        | cons _ _ => rw [e] at hlen; simp at hlen
    have hya : A x y := (hn.mem x hx2.1 hx2.2 y).mp (by rw [hy]; exact List.mem_cons_self)
    have hy2 := hn.inn x hx2.1 hx2.2 y (by rw [hy]; exact List.mem_cons_self)
    rw [hy, at_in (d := 0) (by omega) (by simp)]
    walk_at "w"
    have ey : [y].getD (0 : Int).toNat 0 = y := rfl
    rw [ey, at_in (d := []) hy2.1 (by omega)]
    walk_at "w"
    have hnb2 : nr.getD y.toNat [] = nb nr y := rfl
    rw [hnb2]
    have := nb_len hn hy2
    refine ⟨⟨by simp; omega, rfl⟩, ?_⟩
    refine cmp_f (fun z => decide (((nb nr z).length : Int) = 1)) (fun z hz => ?_) ?_
    · have hz2 := hn.inn y hy2.1 hy2.2 z hz
      walk_at "w"
      rw [at_in (d := []) hz2.1 (by omega)]
      walk_at "w"
      simp [nb]
    · walk_at "w"
      have hxin : x ∈ (nb nr y).filter fun z => decide (((nb nr z).length : Int) = 1) := List.mem_filter.mpr ⟨(hn.mem y hy2.1 hy2.2 x).mpr (sym _ _ hya), decide_eq_true (by omega)⟩
      rw [at_head (List.ne_nil_of_mem hxin)]
      walk_at "w"
      exact fin _ _ _
  · rintro S ⟨B4, L, a, b, rfl, hB4, hL⟩
    walk_at "w"
    have hL2 : L.Sublist (rng 0 size) := hL.trans (List.take_sublist _ _)
    exact k L B4 _ ⟨fun v hv => by have := rng_mem.mp (hL2.mem hv); omega, rng_sorted.sublist hL2⟩ hB4 rfl
end
end W

/-! T19: presses, rows. -/
namespace W
open PySem PySem.Spec PyProof.Rows L2 Z
local macro_rules | `(tactic| walk_at "w") => `(tactic| simp only [w_mC, w_mVar, w_m2x, w_m1x, w_mTst, w_mAnd, w_mOr, w_mNot, w_mIf, w_mBl, w_mFr, w_mSh, w_mCons, w_mRd, w_mRv, w_pVar, w_pIx, w_mCh, w_mYes', w_m2N, w_m1N, w_mStar, w_mSeq, w_mSl, w_mPart, x_mLook, x_mUse, x_mMov, x_mItV, x_mut, x_comp,
  s_next, s_seq, s_if, s_ret, s_asg, s_sto, s_own, s_drop, s_setI, s_augI, s_aug, s_bad, s_retN, s_brk, s_cnt, s_par, s_for,
  x_call1, x_call2, x_call3, x_call4, x_call5, x_call1s, x_call2s, x_call2t, x_call3s, x_call3t, x_call3u, x_call1b, x_call2b, x_call3b, x_call4b, x_meth0, x_meth1, x_meth2, x_meth1s, x_set, set_i, set_b, en_i, en_p, en_r, f_tupO2, f_tupO3, f_tup2d, fr_t2, fr_t3, slt_ow, ix_t0, ix_t1, ix_t2, wi_t0, wi_t1, og_t0, og_t1, op_t0, op_t1, f_eq_t2, f_ne_t2, o_size, o_wired, r_size, r_wired, x_mk, mk_ok, cut_map, ls_i, ls_r, ls_p, lst_rs, lst_is,
  f_add, f_sub, f_lt, f_le, f_gt, f_ge, f_mod, f_div, f_mul, f_eq, f_ne, f_neg, b_bl, l_sh, v_pl, o_ow, o_own, a_pl, k_pl, k_ow, u_pl, u_ow, mv_pl, mv_ow, i1_int, par2_ok, wF_some, g_nm, f_tp, g_cons, g_nil, wF_map,
  fr_i, fr_p, fr_rs, fr_b, fr_sh, sl_i, sl_p, sl_rs, sl_b, sl_sh, itv_i, itv_p, itv_rs, sq_i, sq_p, sq_r, is_i, is_p, is_r, il_i, il_p, il_rs, il_b,
  m_app_i, m_app_p, m_app_rs, m_app_b, m_rev_i, m_clr_i, m_rem_i, f_len_i, f_len_p, f_len_r, f_in_i, f_ni_i, f_ix_i, f_ix_p, f_ix_r, f_ix_b, p_fst, p_snd, f_list_i, f_list_t, f_list_r, mk_i, mk_p, mk_r, f_srt_i, f_srt_p, f_rev_i, f_rev_p, f_cat_i, f_cat_r, f_cat_p, f_rep_i, minL_map, maxL_map, sum_map, all_map, any_map, f_int1, f_intB, f_max2, f_min2,
  it_r1, it_r2, f_rg, itL_i, itL_p, itL_r, itL_b, itS_i, itS_r, f_lstM, f_lst0, f_lst1, f_lst2, f_lst3, f_lst4, f_lst5, f_lst6, f_lstr1, f_lstr2, f_eq_i, f_ne_i, f_eq_r, f_ne_r, f_eq_p, f_ne_p, f_eq_bl, f_ne_bl, rd_i, rd_b, rd_p, rd_rs, y_size, y_ties, y_wired, y_near, o_neighbours,
  isi_int, isi_int_bl, isi_tup, isi_lst, isi_lt, sg0, sg1, sg2, sg3, sg4, sg5, sg6, sg7, sg8, sg9, sg10, sg11, sg12, sg13, sg14, sg15, sp0, sp1, sp2, sp3, sp4, sp5, sp6, sp7, sp8, sp9, sp10, sp11, sp12, sp13, sp14, sp15, og_nil, op_nil, restS, wipeS,
  List.getElem?_cons_zero, List.getElem?_cons_succ, List.set_cons_zero, List.set_cons_succ, List.getD_cons_zero, List.getD_cons_succ, List.cons_append, List.nil_append, List.append_nil, List.length_cons, List.length_nil, List.replicate_succ, List.replicate_zero, Nat.reduceSub, Nat.reduceAdd, true_and, and_true])
/-- a press -/
def pressL (nr : List (List Int)) (ws up : List Int) (p : Int) : List Int := if sees nr ws up p then sumL up [p] else up
/-- where a row leads: the next index, the changes, the position -/
def stepW (nr : List (List Int)) (ws : List Int) (s : Int × List Int × List Int) (p : Int) : Int × List Int × List Int :=
  if sees nr ws s.2.2 p then (s.1 + 1, s.2.1 ++ [s.1], sumL s.2.2 [p]) else (s.1 + 1, s.2.1, s.2.2)
def walkW (nr : List (List Int)) (ws up : List Int) (row : List Int) : Int × List Int × List Int := row.foldl (stepW nr ws) (0, [], up)
def InR (n : Nat) (row : List Int) : Prop := ∀ p ∈ row, 0 ≤ p ∧ p < (n : Int)
theorem pos_one {n : Nat} {p : Int} (h : 0 ≤ p ∧ p < n) : PosOk n [p] := ⟨fun v hv => by simp at hv; omega, by simp⟩
section
variable {n : Nat} {A : Int → Int → Prop} {nr : List (List Int)} {size : Int} {ts : List (Int × Int)} {ws up : List Int} {p : Int}
theorem press_pos (hu : PosOk n up) (hp : 0 ≤ p ∧ p < n) : PosOk n (pressL nr ws up p) := by
  unfold pressL
  split
  · exact sum_pos hu (pos_one hp)
  · exact hu
theorem step_snoc {s0 : Int × List Int × List Int} {row : List Int} {i : Nat} {p : Int} (h : row[i]? = some p) : (row.take (i + 1)).foldl (stepW nr ws) s0 = stepW nr ws ((row.take i).foldl (stepW nr ws) s0) p := by
  obtain ⟨hl, he⟩ := List.getElem?_eq_some_iff.mp h
  rw [List.take_succ_eq_append_getElem hl, he, List.foldl_append]
  rfl
theorem walk_ok : ∀ (row : List Int) (s : Int × List Int × List Int), InR n row → PosOk n s.2.2 → s.2.1.length ≤ s.1 → (∀ x ∈ s.2.1, 0 ≤ x ∧ x < s.1) → 0 ≤ s.1 →
    PosOk n (row.foldl (stepW nr ws) s).2.2 ∧ (row.foldl (stepW nr ws) s).1 = s.1 + row.length ∧ (row.foldl (stepW nr ws) s).2.1.length ≤ (row.foldl (stepW nr ws) s).1 ∧ ∀ x ∈ (row.foldl (stepW nr ws) s).2.1, 0 ≤ x ∧ x < (row.foldl (stepW nr ws) s).1
  | [], s, _, h1, h2, h3, _ => ⟨h1, by simp, h2, h3⟩
  | p :: row, s, hr, h1, h2, h3, h0 => by
    have hp := hr p List.mem_cons_self
    have hr' : InR n row := fun q hq => hr q (List.mem_cons_of_mem _ hq)
    have e : (stepW nr ws s p).1 = s.1 + 1 := by unfold stepW; split <;> rfl
    have e2 : (stepW nr ws s p).2.1 = s.2.1 ++ [s.1] ∨ (stepW nr ws s p).2.1 = s.2.1 := by
      unfold stepW
      split
      · exact .inl rfl
      · exact .inr rfl
    have e3 : PosOk n (stepW nr ws s p).2.2 := by
      unfold stepW
      split
      · exact sum_pos h1 (pos_one hp)
      · exact h1
    have ih := walk_ok row (stepW nr ws s p) hr' e3 (by
      rcases e2 with e2 | e2 <;> rw [e2, e]
      · rw [List.length_append]; simp; omega
      · omega) (by
      intro x hx
      rw [e]
      rcases e2 with e2 | e2 <;> rw [e2] at hx
      · rcases List.mem_append.mp hx with hx | hx
        · have := h3 x hx; omega
        · simp at hx; omega
      · have := h3 x hx; omega) (by omega)
    rw [List.foldl_cons]
    refine ⟨ih.1, ?_, ih.2.2⟩
    rw [ih.2.1, e, List.length_cons]
    omega
theorem r_press (hn : NearOk n A nr) (h60 : n ≤ 60) (hs : size = n) (hu : PosOk n up) (hp : 0 ≤ p ∧ p < n) : rO (f_press [.pl (yD size ts ws nr), .pl (iD up), .pl (.int p)]) = some (iO (pressL nr ws up p)) := by
  have hl := hn.len
  have hul := hu.len
  refine rO_of ?_
  unfold f_press
  rw [wO_mk]
  unfold m_press
  walk_at "w"
  rw [r_sees_odd hn h60 hs hp]
  walk_at "w"
  unfold pressL
  cases hse : sees nr ws up p with
  | false =>
    refine ⟨fun _ => rfl, fun z => (by cases z)⟩
  | true =>
    refine ⟨fun z => (by cases z), fun _ => ⟨fun h => ⟨⟨by simp; omega, rfl⟩, ?_⟩, fun h => ?_⟩⟩
    · have hin : p ∈ up := by simpa using h
      refine cmp_f (fun q => !decide (q = p)) (fun q hq => ?_) ?_
      · walk_at "w"
        simp
      · congr 1
        refine pos_ext (pos_filter hu _) (sum_pos hu (pos_one hp)) fun x => ?_
        rw [List.mem_filter, if_pos rfl, sum_mem]
        by_cases e : x = p <;> simp [e, hin]
    · have hin : p ∉ up := by simpa using h
      have e1 : up.map D.int ++ [D.int p] = (up ++ [p]).map D.int := by simp
      rw [e1]
      walk_at "w"
      refine ⟨by simp; omega, ?_⟩
      congr 1
      refine pos_ext (n := n) (m := n) ⟨fun v hv => ?_, sorted_lt (srtI_sorted _) ((srtI_perm _).nodup_iff.mpr ?_)⟩ (sum_pos hu (pos_one hp)) fun x => ?_
      · rcases List.mem_append.mp (srt_mem.mp hv) with h | h
        · exact hu.1 v h
        · simp at h; rw [h]; exact hp
      · exact List.nodup_append.mpr ⟨hu.nd, by simp, fun a ha b hb => by simp at hb; rw [hb]; exact fun e => hin (e ▸ ha)⟩
      · rw [srt_mem, if_pos trivial, sum_mem]
        by_cases e : x = p <;> simp [e, hin]
/-- flags as truths -/
def bl (size : Int) (up : List Int) : List Bool := (rng 0 size).map fun q => decide (q ∈ up)
theorem at_rng {α : Type} {f : Int → α} {size p : Int} (h0 : 0 ≤ p) (h1 : p < size) : atI ((rng 0 size).map f) p = some (f p) := by
  have hl : ((rng 0 size).map f).length = size.toNat := by rw [List.length_map, rng_len]; omega
  unfold atI
  rw [ixN_ok h0 (by omega)]
  simp only [Option.bind_some, List.getElem?_map]
  unfold rng
  rw [List.getElem?_map, List.getElem?_range (by omega)]
  simp only [Option.map_some]
  congr 2
  omega
theorem bl_at {size q : Int} (h0 : 0 ≤ q) (h1 : q < size) : atI (bl size up) q = some (decide (q ∈ up)) := at_rng h0 h1
theorem bl_len {size : Int} : (bl size up).length = size.toNat := by unfold bl; rw [List.length_map, rng_len]; omega
theorem bl_set {size p : Int} (h0 : 0 ≤ p) (h1 : p < size) : (bl size up).set p.toNat (!decide (p ∈ up)) = bl size (sumL up [p]) := by
  apply List.ext_getElem?
  intro i
  unfold bl
  by_cases hi : i < size.toNat
  · have e : (rng 0 size)[i]? = some (i : Int) := by
      unfold rng
      rw [List.getElem?_map, List.getElem?_range (by omega)]
      simp
    by_cases hp : i = p.toNat
    · subst hp
      rw [List.getElem?_set_self (by rw [List.length_map, rng_len]; omega), List.getElem?_map, e]
      simp only [Option.map_some]
      congr 1
      have e2 : ((p.toNat : Nat) : Int) = p := by omega
      rw [e2]
      have := sum_mem (a := up) (b := [p]) (x := p)
      by_cases q : p ∈ up <;> simp [q] at this <;> simp [q, this]
    · rw [List.getElem?_set_ne (Ne.symm hp), List.getElem?_map, List.getElem?_map, e]
      simp only [Option.map_some]
      congr 1
      have := sum_mem (a := up) (b := [p]) (x := (i : Int))
      have hne : (i : Int) ≠ p := by omega
      by_cases q : (i : Int) ∈ up <;> simp [q, hne] at this <;> simp [q, this]
  · rw [List.getElem?_eq_none (by rw [List.length_set, List.length_map, rng_len]; omega), List.getElem?_eq_none (by rw [List.length_map, rng_len]; omega)]
theorem bl_back {size : Int} (hs : size = n) (hu : PosOk n up) : (rng 0 size).filter (fun q => decide (q ∈ up)) = up :=
  pos_ext (pos_filter (pos_rng hs) _) hu fun x => by
    rw [List.mem_filter, rng_mem, decide_eq_true_eq]
    exact ⟨fun h => h.2, fun h => ⟨by have := hu.1 x h; omega, h⟩⟩
def folI (nr : List (List Int)) (size : Int) (ws up row : List Int) (y : D) (i : Nat) (S : List Sl) : Prop := ∃ (a b : Sl), notOw (some b) = true ∧ S = [.pl y, .pl (iD up), .pl (iD row), .pl (rD ((rng 0 size).map (nb nr))), .ow (bO (bl size ((row.take i).foldl (stepW nr ws) (0, [], up)).2.2)), .pl (iD ws), .pl (bD (bl size ws)), .ow (iO ((row.take i).foldl (stepW nr ws) (0, [], up)).2.1), a, b, .no]
theorem r_follow (hn : NearOk n A nr) (h60 : n ≤ 60) (hs : size = n) (hu : PosOk n up) {row : List Int} (hr : InR n row) (hrl : row.length ≤ 22000) : rO (f_follow [.pl (yD size ts ws nr), .pl (iD up), .pl (iD row)]) = some (.tup [iO (walkW nr ws up row).2.1, iO (walkW nr ws up row).2.2]) := by
  have hl := hn.len
  have hul := hu.len
  have hrg : (rng 0 size).length = size.toNat := by rw [rng_len]; omega
  refine rO_of ?_
  unfold f_follow
  rw [wO_mk]
  unfold m_follow
  walk_at "w"
  refine ⟨by omega, ⟨by simp; omega, rfl⟩, ?_⟩
  refine cmp_r (fun _ => true) (nb nr) (fun x hx => ?_) ?_
  · have := rng_mem.mp hx
    walk_at "w"
    rw [r_neighbours (by omega) (by omega) (by omega)]
    walk_at "w"
    simp
  rw [List.filter_eq_self.mpr (fun _ _ => rfl)]
  walk_at "w"
  refine ⟨by omega, ⟨by simp; omega, rfl⟩, ?_⟩
  refine cmp_b (fun _ => true) (fun q => decide (q ∈ up)) (fun x hx => ?_) ?_
  · walk_at "w"
    simp
  rw [List.filter_eq_self.mpr (fun _ _ => rfl)]
  have eb : ∀ L : List Int, (rng 0 size).map (fun q => decide (q ∈ L)) = bl size L := fun _ => rfl
  rw [eb]
  walk_at "w"
  refine ⟨by omega, ⟨by simp; omega, rfl⟩, ?_⟩
  refine cmp_b (fun _ => true) (fun q => decide (q ∈ ws)) (fun x hx => ?_) ?_
  · walk_at "w"
    simp
  rw [List.filter_eq_self.mpr (fun _ _ => rfl), eb]
  walk_at "w"
  refine for_map (folI nr size ws up row (yD size ts ws nr)) ⟨_, _, rfl, rfl⟩ ?_ ?_
  · rintro i ⟨p, j⟩ S hp ⟨a, b, hno, rfl⟩
    have hp1 : row[i]? = some p ∧ j = i := by
      rw [List.getElem?_zipIdx] at hp
      cases h : row[i]? with
      | none => rw [h] at hp; cases hp
      | some q =>
        rw [h] at hp
        simp only [Option.map_some, Option.some.injEq, Prod.mk.injEq] at hp
        exact ⟨congrArg some hp.1, by omega⟩
    obtain ⟨hp1, rfl⟩ := hp1
    have hi : j < row.length := (List.getElem?_eq_some_iff.mp hp1).1
    have hp2 := hr p (List.mem_of_getElem? hp1)
    have hw := walk_ok (nr := nr) (ws := ws) (row.take j) (0, [], up) (fun q hq => hr q (List.mem_of_mem_take hq)) hu (by simp) (fun x hx => by cases hx) (by simp)
    have hst := step_snoc (nr := nr) (ws := ws) (s0 := (0, [], up)) hp1
    unfold folI
    rw [hst]
    generalize (row.take j).foldl (stepW nr ws) (0, [], up) = st at *
    obtain ⟨w1, w2, w3, w4⟩ := hw
    have hst1 : st.1 = (j : Int) := by rw [w2, List.length_take]; simp; omega
    have := nb_len hn hp2
    walk_at "w"
    rw [← hst1]
    rw [at_rng hp2.1 (by omega)]
    walk_at "w"
    refine ⟨⟨by simp; omega, rfl⟩, ?_⟩
    refine cmp_f (fun q => decide (q ∈ st.2.2)) (fun q hq => ?_) ?_
    · have := hn.inn p hp2.1 hp2.2 q hq
      walk_at "w"
      rw [bl_at (by omega) (by omega)]
      walk_at "w"
      simp
    walk_at "w"
    rw [bl_at hp2.1 (by omega)]
    walk_at "w"
    have hse : decide (((((nb nr p).filter fun q => decide (q ∈ st.2.2)).length : Int) + if decide (p ∈ ws) = true then 1 else 0) % 2 = 1) = sees nr ws st.2.2 p := by
      unfold sees
      simp only [decide_eq_true_eq]
    rw [hse, bl_at hp2.1 (by omega), bl_len, ixN_ok hp2.1 (by omega)]
    walk_at "w"
    refine ⟨by omega, fun h => ⟨by omega, .pl (.int st.1), .pl (.int p), rfl, ?_⟩, fun h => ⟨.pl (.int st.1), .pl (.int p), rfl, ?_⟩⟩
    · rw [bl_set hp2.1 (by omega)]
      unfold stepW
      rw [if_pos h]
    · unfold stepW
      rw [if_neg (by rw [h]; exact Bool.false_ne_true)]
  · rintro S ⟨a, b, hno, rfl⟩
    walk_at "w"
    have hz : row.zipIdx.length = row.length := List.length_zipIdx ..
    rw [hz, List.take_length]
    have hw := walk_ok (nr := nr) (ws := ws) row (0, [], up) hr hu (by simp) (fun x hx => by cases hx) (by simp)
    unfold walkW
    generalize row.foldl (stepW nr ws) (0, [], up) = st at *
    refine ⟨by omega, ⟨by simp; omega, by simpa using hno⟩, ?_⟩
    refine cmp_f (fun q => decide (q ∈ st.2.2)) (fun q hq => ?_) ?_
    · have := rng_mem.mp hq
      walk_at "w"
      rw [bl_at (by omega) (by omega)]
      walk_at "w"
      simp
    · rw [bl_back hs hw.1]
end
end W

/-! Y7: sets of ints, is, isinstance of bools. -/
namespace W
open PySem PySem.Spec PyProof.Rows L2 Z
theorem f_setL {ns : List Int} {P : D → Prop} : wF (gSetL (iD ns)) P = (ns.length < 1000 ∧ P (iD ns)) := by
  unfold gSetL
  rw [show lstD (iD ns) = some (ns.map D.int) from rfl, Option.bind_some, intsD_map, Option.bind_some]
  by_cases h : ns.length < 1000
  · rw [decide_eq_true h]
    exact propext ⟨fun z => ⟨h, z⟩, fun z => z.2⟩
  · rw [decide_eq_false h]
    exact propext ⟨fun z => z.elim, fun z => h z.1⟩
theorem f_srtU {a b : List Int} {P : List D → Prop} : wF (dSrtU (iD a) (iD b)) P = ((a.length + b.length ≤ 120 ∧ (unl (a ++ b)).length < 64) ∧ P ((srtI (unl (a ++ b))).map .int)) := by
  unfold dSrtU
  rw [show lstD (iD a) = some (a.map D.int) from rfl, Option.bind_some, intsD_map, Option.bind_some, show lstD (iD b) = some (b.map D.int) from rfl, Option.bind_some, intsD_map, Option.bind_some]
  by_cases h : a.length + b.length ≤ 120 ∧ (unl (a ++ b)).length < 64
  · rw [decide_eq_true h]
    exact propext ⟨fun z => ⟨h, z⟩, fun z => z.2⟩
  · rw [decide_eq_false h]
    exact propext ⟨fun z => z.elim, fun z => h z.1⟩
theorem f_srtS {a : List Int} {P : List D → Prop} : wF (dSrtS (iD a)) P = ((a.length < 1000 ∧ (unl a).length < 64) ∧ P ((srtI (unl a)).map .int)) := by
  unfold dSrtS
  rw [show lstD (iD a) = some (a.map D.int) from rfl, Option.bind_some, intsD_map, Option.bind_some]
  by_cases h : a.length < 1000 ∧ (unl a).length < 64
  · rw [decide_eq_true h]
    exact propext ⟨fun z => ⟨h, z⟩, fun z => z.2⟩
  · rw [decide_eq_false h]
    exact propext ⟨fun z => z.elim, fun z => h z.1⟩
theorem f_is_bl {a b : Bool} {P : D → Prop} : wF (dIs (.bl a) (.bl b)) P = P (.bl (a == b)) := by cases a <;> cases b <;> rfl
theorem f_isn_bl {a b : Bool} {P : D → Prop} : wF (dIsn (.bl a) (.bl b)) P = P (.bl (!(a == b))) := by cases a <;> cases b <;> rfl
theorem isi_bl {b : Bool} {P : D → Prop} : wF (dIsi (isT .bl) noO (.bl b)) P = P (.bl true) := propext Iff.rfl
/-- where they differ -/
def dif (a b : List Int) (p : Int) : Bool := decide (p ∈ a) != decide (p ∈ b)
def addL (a b : List Int) : List Int := (srtI (unl (a ++ b))).filter (dif a b)
theorem pos_uni {n : Nat} {a b : List Int} (ha : PosOk n a) (hb : PosOk n b) : PosOk n (srtI (unl (a ++ b))) := by
  refine ⟨fun v hv => ?_, ?_⟩
  · rw [srt_mem, unl_mem, List.mem_append] at hv
    exact hv.elim (ha.1 v) (hb.1 v)
  · have h1 := srtI_sorted (unl (a ++ b))
    have h2 : (srtI (unl (a ++ b))).Nodup := (srtI_perm _).nodup_iff.mpr unl_nodup
    exact (h1.and h2).imp fun ⟨u, v⟩ => by omega
theorem add_rng {n : Nat} {a b : List Int} {size : Int} (hs : size = n) (ha : PosOk n a) (hb : PosOk n b) : addL a b = (rng 0 size).filter (dif a b) := by
  unfold addL
  refine pos_ext (pos_filter (pos_uni ha hb) _) (pos_filter (pos_rng hs) _) fun x => ?_
  rw [List.mem_filter, List.mem_filter, srt_mem, unl_mem, List.mem_append, rng_mem]
  constructor
  · rintro ⟨h, hd⟩
    refine ⟨?_, hd⟩
    rcases h with h | h
    · have := ha.1 x h; omega
    · have := hb.1 x h; omega
  · rintro ⟨h, hd⟩
    refine ⟨?_, hd⟩
    unfold dif at hd
    by_cases h1 : x ∈ a
    · exact .inl h1
    · by_cases h2 : x ∈ b
      · exact .inr h2
      · simp [h1, h2] at hd
def headIn (b : List Int) : List Int → Bool
  | [] => false
  | x :: _ => decide (x ∈ b)
def lessB (a b : List Int) : Bool := headIn b (addL a b)
theorem uni_len {n : Nat} {a b : List Int} (ha : PosOk n a) (hb : PosOk n b) : (unl (a ++ b)).length ≤ n := by
  have h1 := (pos_uni ha hb).len
  rwa [(srtI_perm _).length_eq] at h1
end W

/-! T20: odd and even; presses along a group's row. -/
namespace W
open PySem PySem.Spec PyProof.Rows L2 Z
/-- odd many pass -/
def xr {α : Type} (f : α → Bool) : List α → Bool
  | [] => false
  | x :: xs => f x != xr f xs
section
variable {α : Type} {f g : α → Bool}
theorem xr_app {xs ys : List α} : xr f (xs ++ ys) = (xr f xs != xr f ys) := by
  induction xs with
  | nil => simp [xr]
  | cons x xs ih => simp only [List.cons_append, xr, ih, Bool.bne_assoc]
theorem xr_perm {xs ys : List α} (p : xs.Perm ys) : xr f xs = xr f ys := by
  induction p with
  | nil => rfl
  | cons x _ ih => simp only [xr, ih]
  | swap x y l => simp only [xr]; cases f x <;> cases f y <;> cases xr f l <;> rfl
  | trans _ _ h1 h2 => exact h1.trans h2
theorem xr_xor {xs : List α} : xr (fun x => f x != g x) xs = (xr f xs != xr g xs) := by
  induction xs with
  | nil => rfl
  | cons x xs ih => simp only [xr, ih]; cases f x <;> cases g x <;> cases xr f xs <;> cases xr g xs <;> rfl
theorem xr_congr {xs : List α} (h : ∀ x ∈ xs, f x = g x) : xr f xs = xr g xs := by
  induction xs with
  | nil => rfl
  | cons x xs ih => simp only [xr, h x List.mem_cons_self, ih fun y hy => h y (List.mem_cons_of_mem _ hy)]
theorem xr_no {xs : List α} (h : ∀ x ∈ xs, f x = false) : xr f xs = false := by
  induction xs with
  | nil => rfl
  | cons x xs ih => simp only [xr, h x List.mem_cons_self, ih fun y hy => h y (List.mem_cons_of_mem _ hy)]; rfl
theorem xr_len {xs : List α} : (((xs.filter f).length : Int) % 2) = if xr f xs then 1 else 0 := by
  induction xs with
  | nil => rfl
  | cons x xs ih =>
    unfold xr
    rw [List.filter_cons]
    cases hf : f x with
    | true =>
      simp only [if_true, List.length_cons, Bool.true_bne]
      cases hx : xr f xs <;> rw [hx] at ih <;> simp at ih ⊢ <;> omega
    | false =>
      simp only [Bool.false_eq_true, if_false, Bool.false_bne]
      exact ih
end
theorem xr_one {xs : List Int} (nd : xs.Nodup) (c : Int) : xr (fun x => decide (x = c)) xs = decide (c ∈ xs) := by
  induction xs with
  | nil => rfl
  | cons x xs ih =>
    obtain ⟨h1, h2⟩ := List.nodup_cons.mp nd
    simp only [xr, ih h2]
    by_cases e : x = c
    · subst e
      simp [h1]
    · have : c ≠ x := fun z => e z.symm
      simp [e, this]
/-- lies in -/
def isIn (L : List Int) (x : Int) : Bool := decide (x ∈ L)
section
variable {n : Nat} {A : Int → Int → Prop} {nr : List (List Int)} {ws up G : List Int} {p : Int}
theorem sees_xr : sees nr ws up p = (xr (isIn up) (nb nr p) != isIn ws p) := by
  unfold sees
  have h := xr_len (f := isIn up) (xs := nb nr p)
  have e : ((nb nr p).filter fun q => decide (q ∈ up)) = (nb nr p).filter (isIn up) := rfl
  rw [e]
  by_cases hw : p ∈ ws
  · rw [if_pos hw, show isIn ws p = true from decide_eq_true hw]
    cases hx : xr (isIn up) (nb nr p) <;> rw [hx] at h <;> simp at h ⊢ <;> omega
  · rw [if_neg hw, show isIn ws p = false from decide_eq_false hw]
    cases hx : xr (isIn up) (nb nr p) <;> rw [hx] at h <;> simp at h ⊢ <;> omega
theorem sum_in {a b : List Int} {x : Int} : isIn (sumL a b) x = (isIn a x != isIn b x) := by
  unfold isIn
  have h := sum_mem (a := a) (b := b) (x := x)
  by_cases h1 : x ∈ a <;> by_cases h2 : x ∈ b <;> simp [h, h1, h2]
theorem in_ext {a b : List Int} (ha : PosOk n a) (hb : PosOk n b) (h : ∀ x, isIn a x = isIn b x) : a = b :=
  pos_ext ha hb fun x => by
    have := h x
    unfold isIn at this
    by_cases h1 : x ∈ a <;> by_cases h2 : x ∈ b <;> simp [h1, h2] at this ⊢
theorem sees_sum {b : List Int} : sees nr ws (sumL up b) p = (sees nr ws up p != xr (isIn b) (nb nr p)) := by
  rw [sees_xr, sees_xr, xr_congr (g := fun x => isIn up x != isIn b x) fun x _ => sum_in, xr_xor]
  cases xr (isIn up) (nb nr p) <;> cases xr (isIn b) (nb nr p) <;> cases isIn ws p <;> rfl
/-- odd many of the group are ready -/
def oddG (nr : List (List Int)) (ws up G : List Int) : Bool := xr (sees nr ws up) G
/-- the group over, if odd many of it are ready -/
def overL (nr : List (List Int)) (ws up G : List Int) : List Int := if oddG nr ws up G then sumL up G else up
def pressRow (nr : List (List Int)) (ws : List Int) (up row : List Int) : List Int := row.foldl (pressL nr ws) up
theorem over_pos (hu : PosOk n up) (hG : PosOk n G) : PosOk n (overL nr ws up G) := by
  unfold overL
  split
  · exact sum_pos hu hG
  · exact hu
theorem over_in {x : Int} : isIn (overL nr ws up G) x = (isIn up x != (oddG nr ws up G && isIn G x)) := by
  unfold overL
  cases h : oddG nr ws up G
  · simp
  · simp [sum_in]
theorem over_one : overL nr ws up [p] = pressL nr ws up p := by
  unfold overL pressL oddG xr xr
  simp
theorem press_sees {q : Int} : sees nr ws (pressL nr ws up p) q = (sees nr ws up q != (sees nr ws up p && xr (isIn [p]) (nb nr q))) := by
  unfold pressL
  cases h : sees nr ws up p
  · simp
  · simp [sees_sum]
theorem over_sees {q : Int} : sees nr ws (overL nr ws up G) q = (sees nr ws up q != (oddG nr ws up G && xr (isIn G) (nb nr q))) := by
  unfold overL
  cases h : oddG nr ws up G
  · simp
  · simp [sees_sum]
theorem xr_swap {a b : List Int} (ha : a.Nodup) (hb : b.Nodup) : xr (isIn b) a = xr (isIn a) b := by
  have h1 := xr_len (f := isIn b) (xs := a)
  have h2 := xr_len (f := isIn a) (xs := b)
  have p : (a.filter (isIn b)).Perm (b.filter (isIn a)) := by
    refine (List.perm_ext_iff_of_nodup (ha.sublist List.filter_sublist) (hb.sublist List.filter_sublist)).mpr fun x => ?_
    rw [List.mem_filter, List.mem_filter]
    unfold isIn
    rw [decide_eq_true_eq, decide_eq_true_eq]
    exact And.comm
  rw [p.length_eq, h2] at h1
  cases u : xr (isIn b) a <;> cases v : xr (isIn a) b <;> rw [u, v] at h1 <;> simp at h1 ⊢
theorem isIn_one {x : Int} : isIn [p] x = decide (x = p) := by
  unfold isIn
  simp
theorem odd_one {u : List Int} : oddG nr ws u [p] = sees nr ws u p := by
  unfold oddG xr xr
  simp
theorem conj (hn : NearOk n A nr) (sym : ∀ u v : Int, A u v → A v u) (irr : ∀ v : Int, 0 ≤ v → v < n → ¬ A v v) {L : List Int} (hL : PosOk n L) (hp : p ∈ L) (h1 : ((nb nr p).filter fun q => decide (q ∈ L)).length = 1) (hu : PosOk n up) :
    pressL nr ws (overL nr ws (pressL nr ws up p) (L.erase p)) p = overL nr ws up L := by
  obtain ⟨p0, p1⟩ := hL.1 p hp
  have hG : PosOk n (L.erase p) := ⟨fun v hv => hL.1 v (List.mem_of_mem_erase hv), hL.2.sublist List.erase_sublist⟩
  have hpn : p ∉ nb nr p := fun z => irr p p0 p1 ((hn.mem p p0 p1 p).mp z)
  have hpG : p ∉ L.erase p := fun z => (hL.nd.mem_erase_iff.mp z).1 rfl
  have a1 : xr (isIn [p]) (nb nr p) = false := xr_no fun x hx => by
    rw [isIn_one]
    exact decide_eq_false fun z => hpn (z ▸ hx)
  have b1 : xr (isIn (L.erase p)) (nb nr p) = true := by
    have h := xr_len (f := isIn (L.erase p)) (xs := nb nr p)
    have e : (nb nr p).filter (isIn (L.erase p)) = (nb nr p).filter fun q => decide (q ∈ L) := List.filter_congr fun q hq => by
      unfold isIn
      have : q ≠ p := fun z => hpn (z ▸ hq)
      simp [hL.nd.mem_erase_iff, this]
    rw [e, h1] at h
    cases u : xr (isIn (L.erase p)) (nb nr p) <;> rw [u] at h <;> simp at h ⊢
  have c1 : xr (fun q => xr (isIn [p]) (nb nr q)) (L.erase p) = true := by
    rw [← b1, ← xr_swap hG.nd (hn.nd p p0 p1)]
    refine xr_congr fun q hq => ?_
    obtain ⟨q0, q1⟩ := hG.1 q hq
    rw [xr_congr (g := fun x => decide (x = p)) fun x _ => isIn_one, xr_one (hn.nd q q0 q1)]
    unfold isIn
    have := hn.mem q q0 q1 p
    have h2 := hn.mem p p0 p1 q
    by_cases z : A q p
    · rw [decide_eq_true (this.mpr z), decide_eq_true (h2.mpr (sym _ _ z))]
    · rw [decide_eq_false fun y => z (this.mp y), decide_eq_false fun y => z (sym _ _ (h2.mp y))]
  have s1 : oddG nr ws (pressL nr ws up p) (L.erase p) = (oddG nr ws up (L.erase p) != sees nr ws up p) := by
    unfold oddG
    rw [xr_congr (g := fun q => sees nr ws up q != (sees nr ws up p && xr (isIn [p]) (nb nr q))) fun q _ => press_sees, xr_xor]
    have e2 : xr (fun q => sees nr ws up p && xr (isIn [p]) (nb nr q)) (L.erase p) = sees nr ws up p := by
      cases h : sees nr ws up p
      · exact xr_no fun x _ => rfl
      · exact (xr_congr fun q _ => rfl).trans c1
    rw [e2]
  have s2 : oddG nr ws up L = (sees nr ws up p != oddG nr ws up (L.erase p)) := by
    unfold oddG
    rw [xr_perm (List.perm_cons_erase hp)]
    rfl
  refine in_ext (press_pos (over_pos (press_pos hu ⟨p0, p1⟩) hG) ⟨p0, p1⟩) (over_pos hu hL) fun y => ?_
  have e1 : isIn L y = (isIn [p] y != isIn (L.erase p) y) := by
    rw [isIn_one]
    unfold isIn
    by_cases z : y = p
    · subst z
      simp [hp, hpG]
    · simp [hL.nd.mem_erase_iff, z]
  rw [over_in, s2, e1, ← over_one, over_in, odd_one, over_sees, press_sees, a1, b1, s1, over_in, s1, ← over_one, over_in, odd_one]
  cases isIn up y <;> cases sees nr ws up p <;> cases oddG nr ws up (L.erase p) <;> cases isIn [p] y <;> cases isIn (L.erase p) y <;> rfl
/-- a group's row over or not -/
theorem row_over (T : RT n A) (hn : NearOk n A nr) (sym : ∀ u v : Int, A u v → A v u) (irr : ∀ v : Int, 0 ≤ v → v < n → ¬ A v v) : ∀ (k : Nat) (L tk : List Int), L.length ≤ k → PosOk n L → OneTop T L → L ≠ [] →
    ∃ mid, rowOf nr k L tk = tk ++ mid ++ tk.reverse ∧ InR n mid ∧ ∀ up, PosOk n up → pressRow nr ws up mid = overL nr ws up L
  | 0, L, tk, hk, _, _, hne => absurd (List.eq_nil_of_length_eq_zero (by omega)) hne
  | k + 1, L, tk, hk, hL, hc, hne => by
    have hpos : 0 < L.length := List.length_pos_iff.mpr hne
    by_cases h2 : 1 < L.length
    · have hee := ends_ne T hn hL hc h2
      obtain ⟨e1, e2, e3⟩ := ends_head T hn hL hc hee
      have h1 : ((nb nr ((endsOf nr L).headD 0)).filter fun q => decide (q ∈ L)).length = 1 := by
        have h3 : ((((nb nr ((endsOf nr L).headD 0)).filter fun q => decide (q ∈ L)).length : Nat) : Int) = 1 := of_decide_eq_true (List.mem_filter.mp (head_mem hee)).2
        omega
      have hl2 : (L.erase ((endsOf nr L).headD 0)).length = L.length - 1 := List.length_erase_of_mem e1
      obtain ⟨mid, m1, m2, m3⟩ := row_over T hn sym irr k (L.erase ((endsOf nr L).headD 0)) (tk ++ [(endsOf nr L).headD 0]) (by omega) e2 e3 (fun z => by rw [z] at hl2; simp at hl2; omega)
      have hr : rowOf nr (k + 1) L tk = rowOf nr k (L.erase ((endsOf nr L).headD 0)) (tk ++ [(endsOf nr L).headD 0]) := by
        show (if 1 < L.length then _ else _) = _
        rw [if_pos h2]
      generalize (endsOf nr L).headD 0 = p at *
      have hp := hL.1 p e1
      refine ⟨[p] ++ mid ++ [p], ?_, fun q hq => ?_, fun up hu => ?_⟩
      · rw [hr, m1]
        simp
      · simp only [List.mem_append, List.mem_singleton] at hq
        rcases hq with (h | h) | h
        · rw [h]; exact hp
        · exact m2 q h
        · rw [h]; exact hp
      · have hu1 := press_pos (nr := nr) (ws := ws) hu hp
        have := m3 _ hu1
        unfold pressRow at this ⊢
        rw [List.foldl_append, List.foldl_append]
        show pressL nr ws (mid.foldl (pressL nr ws) (pressL nr ws up p)) p = _
        rw [this]
        exact conj hn sym irr hL e1 h1 hu
    · obtain ⟨c, rfl⟩ : ∃ c, L = [c] := by
        cases L with
        | nil => exact absurd rfl hne
        | cons c r =>
          cases r with
          | nil => exact ⟨c, rfl⟩
          | cons _ _ => simp at h2
      refine ⟨[c], rowOf_stop h2, fun q hq => hL.1 q hq, fun up hu => ?_⟩
      rw [over_one]
      rfl
end
end W

/-! T21: a position's sign stays. -/
namespace W
open PySem PySem.Spec PyProof.Rows L2 Z
theorem xr_flat {α β : Type} {f : β → Bool} {g : α → List β} {xs : List α} : xr f (xs.flatMap g) = xr (fun x => xr f (g x)) xs := by
  induction xs with
  | nil => rfl
  | cons x xs ih => rw [List.flatMap_cons, xr_app, ih]; rfl
theorem xr_filt {α : Type} {f : α → Bool} {xs : List α} : xr (fun _ => true) (xs.filter f) = xr f xs := by
  induction xs with
  | nil => rfl
  | cons x xs ih =>
    rw [List.filter_cons]
    cases h : f x
    · simp [xr, h, ih]
    · simp [xr, h, ih]
def insd (v : List Int) (t : Int × Int) : Bool := isIn v t.1 && isIn v t.2
def sgnI (tss : List (Int × Int)) (ws v : List Int) : Int := ((v.length : Int) - ((tss.filter (insd v)).length : Int) + ((ws.filter (isIn v)).length : Int)) % 2
theorem sgn_xr {tss : List (Int × Int)} {ws v : List Int} : sgnI tss ws v = if ((xr (fun _ => true) v != xr (insd v) tss) != xr (isIn v) ws) then 1 else 0 := by
  have h1 := xr_len (f := fun _ => true) (xs := v)
  have h2 := xr_len (f := insd v) (xs := tss)
  have h3 := xr_len (f := isIn v) (xs := ws)
  rw [List.filter_eq_self.mpr fun _ _ => rfl] at h1
  unfold sgnI
  cases e1 : xr (fun _ => true) v <;> cases e2 : xr (insd v) tss <;> cases e3 : xr (isIn v) ws <;> rw [e1] at h1 <;> rw [e2] at h2 <;> rw [e3] at h3 <;> simp at h1 h2 h3 ⊢ <;> omega
section
variable {n : Nat} {ts : List (Int × Int)} {ws v : List Int} {p : Int}
theorem pos_of_rng (hv : PosOk n v) : (rng 0 (n : Int)).filter (isIn v) = v := by
  refine pos_ext (pos_filter (pos_rng rfl) _) hv fun x => ?_
  rw [List.mem_filter, rng_mem]
  unfold isIn
  rw [decide_eq_true_eq]
  exact ⟨fun h => h.2, fun h => ⟨hv.1 x h, h⟩⟩
theorem nb_perm (h : TreeOk n ts) (hp : 0 ≤ p ∧ p < n) : (nb (nearL n ts) p).Perm (nbrs (srtP ts) p.toNat) := by
  have hl : p.toNat < n := by omega
  have e : nb (nearL n ts) p = srtI (nbrs (srtP ts) p.toNat) := by
    unfold nb nearL
    rw [List.getD_eq_getElem?_getD, List.getElem?_map, List.getElem?_range hl]
    rfl
  rw [e]
  exact srtI_perm _
theorem sgn_press (h : TreeOk n ts) (hv : PosOk n v) (hw : ws.Nodup) (hp : 0 ≤ p ∧ p < n) : sgnI (srtP ts) ws (pressL (nearL n ts) ws v p) = sgnI (srtP ts) ws v := by
  unfold pressL
  cases hs : sees (nearL n ts) ws v p
  · rfl
  rw [if_pos rfl]
  have hv' : PosOk n (sumL v [p]) := sum_pos hv (pos_one hp)
  rw [sgn_xr, sgn_xr]
  have a1 : xr (fun _ => true) (sumL v [p]) = !(xr (fun _ => true) v) := by
    rw [← pos_of_rng hv', xr_filt, xr_congr (g := fun x => isIn v x != decide (x = p)) fun x _ => by rw [sum_in, isIn_one], xr_xor, xr_one (pos_rng (n := n) rfl).nd, decide_eq_true (rng_mem.mpr (by omega))]
    conv => rhs; rw [← pos_of_rng hv, xr_filt]
    cases xr (isIn v) (rng 0 (n : Int)) <;> rfl
  have a2 : xr (insd (sumL v [p])) (srtP ts) = (xr (insd v) (srtP ts) != xr (isIn v) (nb (nearL n ts) p)) := by
    rw [xr_perm (nb_perm h hp)]
    unfold nbrs
    rw [xr_flat, ← xr_xor]
    refine xr_congr fun t ht => ?_
    have hlt : t.1 < t.2 := (tree_tie h t ((srtP_perm ts).mem_iff.mp ht)).2.1
    have hpp : (p.toNat : Int) = p := by omega
    unfold insd
    rw [sum_in, sum_in, isIn_one, isIn_one, hpp]
    by_cases e1 : t.1 = p
    · have e2 : t.2 ≠ p := by omega
      rw [if_pos e1, decide_eq_true e1, decide_eq_false e2]
      simp only [xr]
      cases isIn v t.1 <;> cases isIn v t.2 <;> rfl
    · by_cases e2 : t.2 = p
      · rw [if_neg e1, if_pos e2, decide_eq_false e1, decide_eq_true e2]
        simp only [xr]
        cases isIn v t.1 <;> cases isIn v t.2 <;> rfl
      · rw [if_neg e1, if_neg e2, decide_eq_false e1, decide_eq_false e2]
        simp only [xr]
        cases isIn v t.1 <;> cases isIn v t.2 <;> rfl
  have a3 : xr (isIn (sumL v [p])) ws = (xr (isIn v) ws != isIn ws p) := by
    rw [xr_congr (g := fun x => isIn v x != decide (x = p)) fun x _ => by rw [sum_in, isIn_one], xr_xor, xr_one hw]
    rfl
  rw [a1, a2, a3]
  rw [sees_xr] at hs
  cases u1 : xr (fun _ => true) v <;> cases u2 : xr (insd v) (srtP ts) <;> cases u3 : xr (isIn v) ws <;> cases u4 : xr (isIn v) (nb (nearL n ts) p) <;> cases u5 : isIn ws p <;> rw [u4, u5] at hs <;> simp at hs ⊢
theorem sgn_row (h : TreeOk n ts) (hw : ws.Nodup) : ∀ (row v : List Int), PosOk n v → InR n row → sgnI (srtP ts) ws (pressRow (nearL n ts) ws v row) = sgnI (srtP ts) ws v
  | [], v, _, _ => rfl
  | p :: row, v, hv, hr => by
    have hp := hr p List.mem_cons_self
    have ih := sgn_row h hw row (pressL (nearL n ts) ws v p) (press_pos hv hp) fun q hq => hr q (List.mem_cons_of_mem _ hq)
    rw [sgn_press h hv hw hp] at ih
    exact ih
end
theorem pos_add {n : Nat} {a b : List Int} (ha : PosOk n a) (hb : PosOk n b) : addL a b = sumL a b := by
  refine pos_ext (pos_filter (pos_uni ha hb) _) (sum_pos ha hb) fun x => ?_
  show x ∈ (srtI (unl (a ++ b))).filter (dif a b) ↔ _
  rw [List.mem_filter, srt_mem, unl_mem, List.mem_append, sum_mem]
  unfold dif
  by_cases h1 : x ∈ a <;> by_cases h2 : x ∈ b <;> simp [h1, h2]
theorem cmp_p {S : List Sl} {g : Tg} {t : M Bool} {e : M D} {vs : List Nat} {xs : List (Int × Int)} {S0 : List Sl} {Q : O → List Sl → Prop} (p : Int × Int → Bool)
    (st : ∀ x ∈ xs, wF (g (Z.pairD x) S) fun S1 => wM t S1 fun b S2 => b = p x ∧ (p x = true → wM e S2 fun y S3 => y = Z.pairD x ∧ wipeS S3 vs = S) ∧ (p x = false → wipeS S2 vs = S)) (en : Q (pO (xs.filter p)) (restS S0 S vs)) : wCmp g t e vs (xs.map Z.pairD) S0 S Q :=
  cmp_map p Z.pairD st (by
    have e : O.lst (((xs.filter p).map Z.pairD).map O.sh) = pO (xs.filter p) := by
      unfold pO
      rw [List.map_map]
      rfl
    rw [e]
    exact en)
theorem o_ties {size : Int} {ts : List (Int × Int)} {ws : List Int} {nr : List (List Int)} {P : Prop} : wOb "Yard" "ties" (yD size ts ws nr) P = P := by
  show ((("Yard" : Str) = "Yard" ∧ yardF.contains "ties" = false) ∧ P) = P
  have : yardF.contains "ties" = false := by decide
  simp only [this, and_self, true_and]
end W

/-! T22: pieces: what hangs together within a set. -/
namespace W
open PySem PySem.Spec PyProof.Rows L2 Z
/-- a way within U -/
inductive Con (A : Int → Int → Prop) (U : List Int) : Int → Int → Prop
  | refl {p : Int} : p ∈ U → Con A U p p
  | step {p q r : Int} : Con A U p q → A q r → r ∈ U → Con A U p r
section
variable {A : Int → Int → Prop} {U K L : List Int} {n : Nat} {p q r : Int}
theorem Con.right (h : Con A U p q) : q ∈ U := by
  cases h with
  | refl h => exact h
  | step _ _ h => exact h
theorem Con.left (h : Con A U p q) : p ∈ U := by
  induction h with
  | refl h => exact h
  | step _ _ _ ih => exact ih
theorem Con.trans (h : Con A U p q) (k : Con A U q r) : Con A U p r := by
  induction k with
  | refl _ => exact h
  | step _ a m ih => exact .step ih a m
theorem Con.symm (sym : ∀ u v, A u v → A v u) (h : Con A U p q) : Con A U q p := by
  induction h with
  | refl m => exact .refl m
  | step h a m ih => exact Con.trans (.step (.refl m) (sym _ _ a) h.right) ih
/-- closed within U -/
def Clo (A : Int → Int → Prop) (U K : List Int) : Prop := ∀ q ∈ K, ∀ r ∈ U, A q r → r ∈ K
theorem Clo.con (c : Clo A U K) (hq : p ∈ K) (h : Con A U p q) : q ∈ K := by
  induction h with
  | refl _ => exact hq
  | step h a m ih => exact c _ ih _ m a
open Classical in
noncomputable def comp (A : Int → Int → Prop) (U : List Int) (p : Int) : List Int := U.filter fun q => decide (Con A U p q)
theorem comp_mem : q ∈ comp A U p ↔ Con A U p q := by
  classical
  unfold comp
  rw [List.mem_filter]
  constructor
  · exact fun h => by simpa using h.2
  · exact fun h => ⟨h.right, by simpa using h⟩
theorem comp_pos (h : PosOk n U) : PosOk n (comp A U p) := by
  unfold comp
  exact pos_filter h _
theorem comp_clo : Clo A U (comp A U p) := fun q hq r hr a => comp_mem.mpr (.step (comp_mem.mp hq) a hr)
theorem comp_is (hU : PosOk n U) (nd : L.Nodup) (hp : p ∈ L) (hL : ∀ q ∈ L, Con A U p q) (c : Clo A U L) : srtI L = comp A U p := by
  have hin : InN n L := fun v hv => hU.1 v (hL v hv).right
  have hs : PosOk n (srtI L) := by
    refine ⟨fun v hv => hin v (srt_mem.mp hv), ?_⟩
    have h1 := srtI_sorted L
    have h2 : (srtI L).Nodup := (srtI_perm _).nodup_iff.mpr nd
    exact (h1.and h2).imp fun ⟨u, v⟩ => by omega
  refine pos_ext hs (comp_pos hU) fun x => ?_
  rw [srt_mem, comp_mem]
  exact ⟨hL x, fun h => c.con hp h⟩
/-- one post more: its piece, if it is in none yet -/
noncomputable def pcStep (A : Int → Int → Prop) (U : List Int) (s : List (List Int) × List Int) (p : Int) : List (List Int) × List Int :=
  if p ∈ s.2 then s else (s.1 ++ [comp A U p], s.2 ++ comp A U p)
noncomputable def pcGo (A : Int → Int → Prop) (U ps : List Int) (s : List (List Int) × List Int) : List (List Int) × List Int := ps.foldl (pcStep A U) s
/-- the pieces -/
noncomputable def pcs (A : Int → Int → Prop) (U : List Int) : List (List Int) := (pcGo A U U ([], [])).1
theorem go_skip : ∀ {ps : List Int} {s : List (List Int) × List Int}, (∀ p ∈ ps, p ∈ s.2) → pcGo A U ps s = s
  | [], s, _ => rfl
  | p :: ps, s, h => by
    unfold pcGo
    rw [List.foldl_cons]
    have e : pcStep A U s p = s := if_pos (h p List.mem_cons_self)
    rw [e]
    exact go_skip (ps := ps) fun q hq => h q (List.mem_cons_of_mem _ hq)
theorem go_app {ps qs : List Int} {s : List (List Int) × List Int} : pcGo A U (ps ++ qs) s = pcGo A U qs (pcGo A U ps s) := List.foldl_append
theorem go_snoc {ps : List Int} {i : Nat} {s : List (List Int) × List Int} (h : ps[i]? = some p) : pcGo A U (ps.take (i + 1)) s = pcStep A U (pcGo A U (ps.take i) s) p := by
  obtain ⟨hl, he⟩ := List.getElem?_eq_some_iff.mp h
  rw [List.take_succ_eq_append_getElem hl, he, go_app]
  rfl
/-- what is known so far -/
structure PcOk (n : Nat) (A : Int → Int → Prop) (U : List Int) (s : List (List Int) × List Int) : Prop where
  sub : ∀ q ∈ s.2, q ∈ U
  clo : Clo A U s.2
  nd : s.2.Nodup
  pos : ∀ L ∈ s.1, PosOk n L
  len : s.1.length ≤ s.2.length
theorem PcOk.nil : PcOk n A U ([], []) := ⟨(fun _ h => nomatch h), (fun _ h => nomatch h), List.nodup_nil, (fun _ h => nomatch h), Nat.le_refl _⟩
theorem PcOk.out (sym : ∀ u v, A u v → A v u) {s : List (List Int) × List Int} (h : PcOk n A U s) (hp : p ∉ s.2) (k : Con A U p q) : q ∉ s.2 := fun z => hp (h.clo.con z (k.symm sym))
theorem PcOk.step (sym : ∀ u v, A u v → A v u) (hU : PosOk n U) {s : List (List Int) × List Int} (h : PcOk n A U s) (hp : p ∈ U) : PcOk n A U (pcStep A U s p) := by
  unfold pcStep
  split
  · exact h
  · rename_i hk
    refine ⟨fun q hq => ?_, fun q hq r hr a => ?_, ?_, fun L hL => ?_, ?_⟩
    · rcases List.mem_append.mp hq with z | z
      · exact h.sub q z
      · exact (comp_mem.mp z).right
    · rcases List.mem_append.mp hq with z | z
      · exact List.mem_append_left _ (h.clo q z r hr a)
      · exact List.mem_append_right _ (comp_clo q z r hr a)
    · refine List.nodup_append.mpr ⟨h.nd, (comp_pos hU).nd, fun x hx y hy e => ?_⟩
      subst e
      exact h.out sym hk (comp_mem.mp hy) hx
    · rcases List.mem_append.mp hL with z | z
      · exact h.pos L z
      · simp only [List.mem_cons, List.not_mem_nil, or_false] at z
        rw [z]
        exact comp_pos hU
    · have : 0 < (comp A U p).length := List.length_pos_of_mem (comp_mem.mpr (Con.refl hp))
      have := h.len
      simp only [List.length_append, List.length_cons, List.length_nil]
      omega
theorem PcOk.go (sym : ∀ u v, A u v → A v u) (hU : PosOk n U) : ∀ {ps : List Int} {s : List (List Int) × List Int}, PcOk n A U s → (∀ p ∈ ps, p ∈ U) → PcOk n A U (pcGo A U ps s)
  | [], s, h, _ => h
  | p :: ps, s, h, hs => PcOk.go sym hU (ps := ps) (h.step sym hU (hs p List.mem_cons_self)) fun q hq => hs q (List.mem_cons_of_mem _ hq)
theorem go_known : ∀ {ps : List Int} {s : List (List Int) × List Int}, (∀ p ∈ ps, p ∈ U) → (∀ q ∈ s.2, q ∈ (pcGo A U ps s).2) ∧ ∀ p ∈ ps, p ∈ (pcGo A U ps s).2
  | [], s, _ => ⟨fun q h => h, fun _ z => nomatch z⟩
  | p :: ps, s, h => by
    obtain ⟨h1, h2⟩ := go_known (ps := ps) (s := pcStep A U s p) fun q hq => h q (List.mem_cons_of_mem _ hq)
    have e : ∀ q ∈ s.2, q ∈ (pcStep A U s p).2 := fun q hq => by
      unfold pcStep
      split
      · exact hq
      · exact List.mem_append_left _ hq
    have e2 : p ∈ (pcStep A U s p).2 := by
      unfold pcStep
      split
      · assumption
      · exact List.mem_append_right _ (comp_mem.mpr (.refl (h p List.mem_cons_self)))
    refine ⟨fun q hq => h1 q (e q hq), fun q hq => ?_⟩
    rcases List.mem_cons.mp hq with z | z
    · rw [z]; exact h1 p e2
    · exact h2 q z
theorem pcs_ok (sym : ∀ u v, A u v → A v u) (hU : PosOk n U) : (∀ L ∈ pcs A U, PosOk n L) ∧ (pcs A U).length ≤ n := by
  have h := PcOk.nil.go (n := n) (A := A) sym hU (ps := U) fun p hp => hp
  exact ⟨h.pos, Nat.le_trans h.len (len_le_n (fun v hv => hU.1 v (h.sub v hv)) h.nd)⟩
end
/-! their number -/
section
variable {n : Nat} {A : Int → Int → Prop} (T : RT n A) {U : List Int} {p q r : Int}
/-- the way up within U -/
def climb (U : List Int) : Nat → Int → Int
  | 0, v => v
  | k + 1, v => if v ≠ T.root ∧ T.par v ∈ U then climb U k (T.par v) else v
/-- the topmost one -/
def topU (U : List Int) (v : Int) : Int := climb T U (T.rk v) v
theorem climb_more (hU : InN n U) : ∀ (k : Nat) (v : Int), v ∈ U → T.rk v ≤ k → climb T U k v = topU T U v
  | 0, v, hv, h => by
    unfold topU
    rw [Nat.le_zero.mp h]
  | k + 1, v, hv, h => by
    have hvn := hU v hv
    unfold topU
    by_cases c : v ≠ T.root ∧ T.par v ∈ U
    · have hr := (T.up v hvn.1 hvn.2 c.1).2
      obtain ⟨m, hm⟩ : ∃ m, T.rk v = m + 1 := ⟨T.rk v - 1, by omega⟩
      have e1 : climb T U (k + 1) v = climb T U k (T.par v) := if_pos c
      have e2 : climb T U (T.rk v) v = climb T U m (T.par v) := by
        rw [hm]
        exact if_pos c
      rw [e1, e2, climb_more hU k _ c.2 (by omega), climb_more hU m _ c.2 (by omega)]
    · have e1 : climb T U (k + 1) v = v := if_neg c
      rw [e1]
      cases hm : T.rk v with
      | zero => rfl
      | succ m => exact (if_neg c).symm
theorem topU_par (hU : InN n U) (hp : p ∈ U) (c : p ≠ T.root ∧ T.par p ∈ U) : topU T U p = topU T U (T.par p) := by
  have hpn := hU p hp
  have hr := (T.up p hpn.1 hpn.2 c.1).2
  rw [← climb_more T hU (T.rk p + 1) p hp (by omega)]
  have e1 : climb T U (T.rk p + 1) p = climb T U (T.rk p) (T.par p) := if_pos c
  rw [e1, climb_more T hU _ _ c.2 (by omega)]
/-- a top -/
def isTop (U : List Int) (v : Int) : Bool := !(decide (v ≠ T.root) && decide (T.par v ∈ U))
theorem isTop_iff {v : Int} : isTop T U v = true ↔ ¬ (v ≠ T.root ∧ T.par v ∈ U) := by
  unfold isTop
  by_cases h1 : v ≠ T.root <;> by_cases h2 : T.par v ∈ U <;> simp [h1, h2]
theorem topU_top (hU : InN n U) (hp : p ∈ U) (h : isTop T U p = true) : topU T U p = p := by
  unfold topU
  cases T.rk p with
  | zero => rfl
  | succ m => exact if_neg ((isTop_iff T).mp h)
theorem topU_con (hU : InN n U) (h : Con A U p q) : topU T U p = topU T U q := by
  induction h with
  | refl _ => rfl
  | @step q r h a m ih =>
    rw [ih]
    have hq := hU _ h.right
    have hr := hU _ m
    rcases (T.adj _ _ hq.1 hq.2 hr.1 hr.2).mp a with ⟨h1, h2⟩ | ⟨h1, h2⟩
    · rw [topU_par T hU h.right ⟨h1, by rw [h2]; exact m⟩, h2]
    · rw [topU_par T hU m ⟨h1, by rw [h2]; exact h.right⟩, h2]
theorem climb_con (hU : InN n U) : ∀ (k : Nat) (v : Int), v ∈ U → T.rk v ≤ k → Con A U v (climb T U k v) ∧ isTop T U (climb T U k v) = true
  | 0, v, hv, h => by
    refine ⟨.refl hv, (isTop_iff T).mpr fun c => ?_⟩
    have hvn := hU v hv
    have hr := (T.up v hvn.1 hvn.2 c.1).2
    have : climb T U 0 v = v := rfl
    omega
  | k + 1, v, hv, h => by
    have hvn := hU v hv
    by_cases c : v ≠ T.root ∧ T.par v ∈ U
    · have hr := T.up v hvn.1 hvn.2 c.1
      have e1 : climb T U (k + 1) v = climb T U k (T.par v) := if_pos c
      rw [e1]
      obtain ⟨h1, h2⟩ := climb_con hU k _ c.2 (by omega)
      exact ⟨Con.trans (.step (.refl hv) ((T.adj _ _ hvn.1 hvn.2 hr.1.1 hr.1.2).mpr (.inl ⟨c.1, rfl⟩)) c.2) h1, h2⟩
    · have e1 : climb T U (k + 1) v = v := if_neg c
      rw [e1]
      exact ⟨.refl hv, (isTop_iff T).mpr c⟩
/-- a piece has one top -/
theorem comp_tops (hU : PosOk n U) (hp : p ∈ U) : ((comp A U p).filter (isTop T U)).length = 1 := by
  obtain ⟨h1, h2⟩ := climb_con T hU.1 (T.rk p) p hp (Nat.le_refl _)
  have hin : climb T U (T.rk p) p ∈ (comp A U p).filter (isTop T U) := List.mem_filter.mpr ⟨comp_mem.mpr h1, h2⟩
  refine len_one ((comp_pos hU).nd.sublist List.filter_sublist) hin fun y hy => ?_
  obtain ⟨h3, h4⟩ := List.mem_filter.mp hy
  have h5 := comp_mem.mp h3
  rw [← topU_top T hU.1 h5.right h4, ← topU_con T hU.1 h5]
  rfl
theorem go_tops (hU : PosOk n U) : ∀ {ps : List Int} {s : List (List Int) × List Int}, (∀ p ∈ ps, p ∈ U) → s.1.length = (s.2.filter (isTop T U)).length → (pcGo A U ps s).1.length = ((pcGo A U ps s).2.filter (isTop T U)).length
  | [], s, _, h => h
  | p :: ps, s, hs, h => by
    refine go_tops hU (ps := ps) (s := pcStep A U s p) (fun q hq => hs q (List.mem_cons_of_mem _ hq)) ?_
    unfold pcStep
    split
    · exact h
    · show (s.1 ++ [comp A U p]).length = ((s.2 ++ comp A U p).filter (isTop T U)).length
      rw [List.filter_append, List.length_append, List.length_append, comp_tops T hU (hs p List.mem_cons_self), h]
      rfl
theorem perm_len {l m : List Int} {f : Int → Bool} (h1 : l.Nodup) (h2 : m.Nodup) (h : ∀ x, x ∈ l ↔ x ∈ m) : (l.filter f).length = (m.filter f).length := by
  have a := sub_len (l := l.filter f) (m := m.filter f) (h1.sublist List.filter_sublist) fun x hx => by
    obtain ⟨u, v⟩ := List.mem_filter.mp hx
    exact List.mem_filter.mpr ⟨(h x).mp u, v⟩
  have b := sub_len (l := m.filter f) (m := l.filter f) (h2.sublist List.filter_sublist) fun x hx => by
    obtain ⟨u, v⟩ := List.mem_filter.mp hx
    exact List.mem_filter.mpr ⟨(h x).mpr u, v⟩
  omega
/-- as many pieces as tops -/
theorem pcs_tops (sym : ∀ u v, A u v → A v u) (hU : PosOk n U) : (pcs A U).length = (U.filter (isTop T U)).length := by
  have h := PcOk.nil.go (n := n) (A := A) sym hU (ps := U) fun p hp => hp
  have k := go_known (A := A) (U := U) (ps := U) (s := ([], [])) fun p hp => hp
  unfold pcs
  rw [go_tops T hU (ps := U) (s := ([], [])) (fun p hp => hp) rfl]
  exact perm_len h.nd hU.nd fun x => ⟨h.sub x, k.2 x⟩
end
/-! the ties within a set -/
section
variable {n : Nat} {ts : List (Int × Int)} (T : RT n (Adj ts)) {U : List Int}
def kid (t : Int × Int) : Int := if t.1 ≠ T.root ∧ T.par t.1 = t.2 then t.1 else t.2
theorem kid_is (ht : TreeOk n ts) {t : Int × Int} (h : t ∈ ts) : (kid T t ≠ T.root) ∧ ((kid T t = t.1 ∧ T.par (kid T t) = t.2) ∨ (kid T t = t.2 ∧ T.par (kid T t) = t.1)) := by
  have hb := tree_tie ht t h
  rcases (T.adj t.1 t.2 (by omega) (by omega) (by omega) (by omega)).mp (.inl h) with c | c
  · have e : kid T t = t.1 := if_pos c
    rw [e]
    exact ⟨c.1, .inl ⟨rfl, c.2⟩⟩
  · unfold kid
    split
    · rename_i c'
      exact ⟨c'.1, .inl ⟨rfl, c'.2⟩⟩
    · exact ⟨c.1, .inr ⟨rfl, c.2⟩⟩
theorem kid_inj (ht : TreeOk n ts) {s t : Int × Int} (hs : s ∈ ts) (h : t ∈ ts) (e : kid T s = kid T t) : s = t := by
  have a := kid_is T ht hs
  have b := kid_is T ht h
  have hs2 := tree_tie ht s hs
  have ht2 := tree_tie ht t h
  rw [e] at a
  obtain ⟨s1, s2⟩ := s
  obtain ⟨t1, t2⟩ := t
  simp only at a b hs2 ht2
  rw [Prod.mk.injEq]
  rcases a.2 with ⟨u1, u2⟩ | ⟨u1, u2⟩ <;> rcases b.2 with ⟨v1, v2⟩ | ⟨v1, v2⟩ <;> omega
theorem map_nd {α β : Type} {f : α → β} : ∀ {l : List α}, l.Nodup → (∀ x ∈ l, ∀ y ∈ l, f x = f y → x = y) → (l.map f).Nodup
  | [], _, _ => List.nodup_nil
  | x :: l, nd, h => by
    have h1 := List.nodup_cons.mp nd
    rw [List.map_cons, List.nodup_cons]
    refine ⟨fun z => ?_, map_nd h1.2 fun a ha b hb => h a (List.mem_cons_of_mem _ ha) b (List.mem_cons_of_mem _ hb)⟩
    obtain ⟨y, hy, e⟩ := List.mem_map.mp z
    have := h y (List.mem_cons_of_mem _ hy) x List.mem_cons_self e
    exact h1.1 (this ▸ hy)
/-- a post each but the tops has a tie of its own -/
theorem inside_len (ht : TreeOk n ts) (hU : PosOk n U) : (ts.filter (insd U)).length = (U.filter fun v => !isTop T U v).length := by
  have nd1 : ((ts.filter (insd U)).map (kid T)).Nodup := map_nd ((ties_nodup ht).sublist List.filter_sublist) fun x hx y hy e => kid_inj T ht (List.mem_filter.mp hx).1 (List.mem_filter.mp hy).1 e
  have nd2 : (U.filter fun v => !isTop T U v).Nodup := hU.nd.sublist List.filter_sublist
  have key : ∀ x, x ∈ (ts.filter (insd U)).map (kid T) ↔ x ∈ U.filter fun v => !isTop T U v := fun x => by
    rw [List.mem_map, List.mem_filter]
    have hnt : (!isTop T U x) = true ↔ (x ≠ T.root ∧ T.par x ∈ U) := by
      have := isTop_iff T (U := U) (v := x)
      cases h : isTop T U x with
      | true => rw [h] at this; simp only [true_iff] at this; simp [this]
      | false =>
        rw [h] at this
        constructor
        · intro _
          exact Classical.byContradiction fun z => absurd (this.mpr z) (by simp)
        · intro _; rfl
    rw [hnt]
    constructor
    · rintro ⟨t, h, rfl⟩
      obtain ⟨h1, h2⟩ := List.mem_filter.mp h
      obtain ⟨k1, k2⟩ := kid_is T ht h1
      have h3 : t.1 ∈ U ∧ t.2 ∈ U := by
        unfold insd isIn at h2
        simpa using h2
      rcases k2 with ⟨u, v⟩ | ⟨u, v⟩
      · exact ⟨by rw [u]; exact h3.1, k1, by rw [v]; exact h3.2⟩
      · exact ⟨by rw [u]; exact h3.2, k1, by rw [v]; exact h3.1⟩
    · rintro ⟨h1, h2, h3⟩
      have hx := hU.1 x h1
      have hp := T.up x hx.1 hx.2 h2
      have ha := (T.adj x (T.par x) hx.1 hx.2 hp.1.1 hp.1.2).mpr (.inl ⟨h2, rfl⟩)
      have hk : ∀ t ∈ ts, (t = (x, T.par x) ∨ t = (T.par x, x)) → kid T t = x := fun t htm e => by
        have k := kid_is T ht htm
        rcases k.2 with ⟨u, v⟩ | ⟨u, v⟩
        · rcases e with rfl | rfl
          · exact u
          · simp only at u v
            have hr := T.up (kid T (T.par x, x)) (by rw [u]; exact hp.1.1) (by rw [u]; exact hp.1.2) k.1
            rw [v, u] at hr
            omega
        · rcases e with rfl | rfl
          · simp only at u v
            have hr := T.up (kid T (x, T.par x)) (by rw [u]; exact hp.1.1) (by rw [u]; exact hp.1.2) k.1
            rw [v, u] at hr
            omega
          · exact u
      rcases ha with ha | ha
      · exact ⟨_, List.mem_filter.mpr ⟨ha, by unfold insd isIn; simp [h1, h3]⟩, hk _ ha (.inl rfl)⟩
      · exact ⟨_, List.mem_filter.mpr ⟨ha, by unfold insd isIn; simp [h1, h3]⟩, hk _ ha (.inr rfl)⟩
  have a := sub_len nd1 fun x hx => (key x).mp hx
  have b := sub_len nd2 fun x hx => (key x).mpr hx
  rw [List.length_map] at a b
  omega
theorem filt_two {α : Type} {f : α → Bool} : ∀ l : List α, (l.filter f).length + (l.filter fun x => !f x).length = l.length
  | [] => rfl
  | x :: l => by
    have := filt_two (f := f) l
    cases h : f x <;> simp [h] <;> omega
/-- pieces and ties are the posts -/
theorem pcs_len (ht : TreeOk n ts) (h1 : 1 ≤ n) (sym : ∀ u v, Adj ts u v → Adj ts v u) (hU : PosOk n U) : (pcs (Adj ts) U).length + (ts.filter (insd U)).length = U.length := by
  obtain ⟨T⟩ := tree_rt ht h1
  rw [pcs_tops T sym hU, inside_len T ht hU]
  exact filt_two U
end
end W

/-! Y8: dicts with ints as keys; rows shown. -/
namespace W
open PySem PySem.Spec PyProof.Rows L2 Z
def dicO (L : List Int) (f : Int → D) : O := .dic (L.map .inl) (L.map fun x => .sh (f x))
def dicD (L : List Int) (f : Int → D) : D := .dic (L.map .inl) (L.map f)
theorem fr_dic {L : List Int} {f : Int → D} : fr (dicO L f) = dicD L f := by
  show D.dic (L.map .inl) (frL (L.map fun x => .sh (f x))) = _
  rw [frL_mapsh f L]
  rfl
theorem dic_nil : O.dic [] [] = dicO [] (fun _ => .non) := rfl
theorem sl_dic {L : List Int} {f : Int → D} : slOf (dicO L f) = .ow (dicO L f) := rfl
theorem inK_i {L : List Int} {x : Int} : inK (L.map Sum.inl) (Sum.inl x : Key) = decide (x ∈ L) := by
  induction L with
  | nil => rfl
  | cons y L ih =>
    have e : inK ((y :: L).map Sum.inl) (Sum.inl x : Key) = (decide ((Sum.inl y : Key) = Sum.inl x) || inK (L.map Sum.inl) (Sum.inl x)) := rfl
    rw [e, ih]
    by_cases h : y = x
    · subst h
      simp
    · have h' : ¬ x = y := fun z => h z.symm
      have h2 : ¬ (Sum.inl y : Key) = Sum.inl x := fun z => h (Sum.inl.inj z)
      simp [h', h2]
theorem atK_i {α : Type} {f : Int → α} {x : Int} : ∀ {L : List Int}, atK (L.map Sum.inl) (L.map f) (Sum.inl x : Key) = if x ∈ L then some (f x) else none
  | [] => rfl
  | y :: L => by
    have e : atK ((y :: L).map Sum.inl) ((y :: L).map f) (Sum.inl x : Key) = if (Sum.inl y : Key) = Sum.inl x then some (f y) else atK (L.map Sum.inl) (L.map f) (Sum.inl x) := rfl
    rw [e, atK_i (L := L)]
    by_cases h : y = x
    · subst h
      simp
    · have h' : ¬ x = y := fun z => h z.symm
      have h2 : ¬ (Sum.inl y : Key) = Sum.inl x := fun z => h (Sum.inl.inj z)
      simp [h', h2]
section
variable {S : List Sl} {k : Ks} {L : List Int} {f : Int → D} {x : Int} {i : Nat} {d : D}
theorem f_din {P : D → Prop} : wF (dDIn (.int x) (dicD L f)) P = P (.bl (decide (x ∈ L))) := by
  show wF (((some (Sum.inl x : Key)).map fun k => inK (L.map .inl) k).map D.bl) P = _
  rw [Option.map_some, Option.map_some, inK_i]
  rfl
theorem f_dni {P : D → Prop} : wF (dDNi (.int x) (dicD L f)) P = P (.bl (!decide (x ∈ L))) := by
  show wF (((some (Sum.inl x : Key)).map fun k => inK (L.map .inl) k).map fun b => D.bl (!b)) P = _
  rw [Option.map_some, Option.map_some, inK_i]
  rfl
theorem f_dix {P : D → Prop} : wF (dDIx (dicD L f) (.int x)) P = (x ∈ L ∧ P (f x)) := by
  show wF (atK (L.map .inl) (L.map f) (Sum.inl x : Key)) P = _
  rw [atK_i]
  by_cases h : x ∈ L
  · rw [if_pos h]
    exact propext ⟨fun z => ⟨h, z⟩, fun z => z.2⟩
  · rw [if_neg h]
    exact propext ⟨fun z => z.elim, fun z => h z.1⟩
theorem f_dic1 {P : O → Prop} : wF (dDic1 (.int x) d) P = P (dicO [x] fun _ => d) := propext Iff.rfl
def wRdD (o : Option O) (y : D) (P : D → Prop) : Prop := match o, keyD y with
  | some (.dic ks os), some k => match atK ks os k with
    | some (.sh d) => P d
    | _ => False
  | _, _ => False
theorem x_rdD {mp : M (List Stp)} {mi : M D} {Q : D → List Sl → Prop} : wM (mRdD i mp mi) S Q = wM mp S fun p S1 => wM mi S1 fun y S2 => wRdD (sget S2 i p) y fun d => Q d S2 := by
  unfold wM mRdD
  simp only [wO_bd]
  congr
  funext p S1
  congr
  funext y S2
  unfold wRdD
  cases sget S2 i p with
  | none => cases keyD y <;> rfl
  | some o =>
    cases o with
    | dic ks os =>
      cases keyD y with
      | none => rfl
      | some k =>
        simp only
        cases atK ks os k with
        | none => rfl
        | some o => cases o <;> rfl
    | _ => cases keyD y <;> rfl
theorem rd_dic {P : D → Prop} : wRdD (some (dicO L f)) (.int x) P = (x ∈ L ∧ P (f x)) := by
  show (match atK (L.map .inl) (L.map fun x => O.sh (f x)) (Sum.inl x : Key) with
    | some (.sh d) => P d
    | _ => False) = _
  rw [atK_i (f := fun x => O.sh (f x))]
  by_cases h : x ∈ L
  · rw [if_pos h]
    exact propext ⟨fun z => ⟨h, z⟩, fun z => z.2⟩
  · rw [if_neg h]
    exact propext ⟨fun z => z.elim, fun z => h z.1⟩
def wSetK (o : Option O) (y d : D) (P : O → Prop) : Prop := match o, keyD y with
  | some (.dic ks os), some k => ks.length < 16777216 ∧ P (putD ks os k d)
  | _, _ => False
theorem s_setD {me : M D} {mp : M (List Stp)} {mi : M D} : wS (sSetD i me mp mi) S k = wM me S fun d S1 => wM mp S1 fun p S2 => wM mi S2 fun y S3 => wSetK (sget S3 i p) y d fun o => k.n (sput S3 i p o) := by
  unfold wS wM sSetD
  simp only [wOS_sd]
  congr
  funext d S1
  congr
  funext p S2
  congr
  funext y S3
  unfold setK wSetK
  cases sget S3 i p with
  | none => cases keyD y <;> rfl
  | some o =>
    cases o with
    | dic ks os =>
      cases keyD y with
      | none => rfl
      | some k' =>
        simp only
        by_cases h : ks.length < 16777216
        · rw [decide_eq_true h]
          exact propext ⟨fun z => ⟨h, z⟩, fun z => z.2⟩
        · rw [decide_eq_false h]
          exact propext ⟨fun z => z.elim, fun z => h z.1⟩
    | _ => cases keyD y <;> rfl
def upF (f : Int → D) (x : Int) (d : D) : Int → D := fun y => if y = x then d else f y
theorem set_dic {P : O → Prop} : wSetK (some (dicO L f)) (.int x) d P = (L.length < 16777216 ∧ P (dicO (if x ∈ L then L else L ++ [x]) (upF f x d))) := by
  show ((L.map Sum.inl).length < 16777216 ∧ P (putD (L.map .inl) (L.map fun x => O.sh (f x)) (Sum.inl x : Key) d)) = _
  rw [List.length_map]
  congr 2
  unfold putD
  rw [inK_i]
  by_cases h : x ∈ L
  · rw [decide_eq_true h, if_pos h]
    show O.dic _ _ = O.dic _ _
    congr 1
    clear h
    induction L with
    | nil => rfl
    | cons y L ih =>
      rw [List.map_cons, List.map_cons, List.zipWith_cons_cons, List.map_cons, ih]
      congr 1
      unfold upF
      by_cases e : y = x
      · rw [if_pos e, if_pos (by rw [e])]
      · rw [if_neg e, if_neg fun z => e (Sum.inl.inj z)]
  · rw [decide_eq_false h, if_neg h]
    show O.dic _ _ = O.dic _ _
    congr 1
    · rw [List.map_append]
      rfl
    · rw [List.map_append]
      congr 1
      · refine List.map_congr_left fun y hy => ?_
        unfold upF
        rw [if_neg fun e : y = x => h (e ▸ hy)]
      · show [O.sh d] = [O.sh (upF f x d x)]
        unfold upF
        rw [if_pos rfl]
/-- all the same -/
theorem upF_const {d : D} {x : Int} : upF (fun _ => d) x d = fun _ => d := by
  funext y
  unfold upF
  split <;> rfl
end
/-! rows shown -/
theorem wt_r : ∀ {nr : List (List Int)}, (∀ r ∈ nr, Small r ∧ r.length ≤ 100) → PyData.weightAll (nr.map pyI) ≤ 4300 * nr.length
  | [], _ => Nat.zero_le _
  | r :: nr, h => by
    show PyData.weight (pyI r) + 1 + PyData.weightAll (nr.map pyI) ≤ 4300 * (nr.length + 1)
    have h1 := wt_r (nr := nr) fun m hm => h m (List.mem_cons_of_mem _ hm)
    obtain ⟨h2, h3⟩ := h r List.mem_cons_self
    have h4 := wt_i h2
    have h5 : PyData.weight (pyI r) = PyData.weightAll (r.map PyData.int) := rfl
    omega
theorem reps_r {nr : List (List Int)} (h : ∀ r ∈ nr, Small r ∧ r.length ≤ 100) (hl : nr.length ≤ 200) : RepS (rD nr) := by
  refine ⟨.list (nr.map pyI), toPy_r nr, repOk_of (can_f pyI can_i nr) ?_ ?_ ?_ ?_, shp_f pyI 1 (by omega) can_i pyI_dep nr, ?_, ?_⟩
  · show PyData.depthAll (nr.map pyI) + 1 ≤ 60
    have := dep_f pyI 1 pyI_dep nr
    omega
  · show PyData.weightAll (nr.map pyI) ≤ 2 ^ 20
    have := wt_r h
    omega
  · show PyData.intsShortAll 13 (nr.map pyI) = true
    clear hl
    induction nr with
    | nil => rfl
    | cons r nr ih =>
      show ((pyI r).intsShort 13 && PyData.intsShortAll 13 (nr.map pyI)) = true
      rw [ih fun m hm => h m (List.mem_cons_of_mem _ hm)]
      have : (pyI r).intsShort 13 = true := PyData.intsShortAll_ints r (h r List.mem_cons_self).1
      rw [this]
      rfl
  · show PyData.showableAll (nr.map pyI) = true
    clear hl
    induction nr with
    | nil => rfl
    | cons r nr ih =>
      show ((pyI r).showable && PyData.showableAll (nr.map pyI)) = true
      rw [ih fun m hm => h m (List.mem_cons_of_mem _ hm)]
      have : (pyI r).showable = true := show_i (h r List.mem_cons_self).1
      rw [this]
      rfl
  · show PyData.eqvAll (nr.map pyI) (nr.map pyI) = true
    rw [eqv_f pyI (fun x y => eqv_i x y)]
    exact decide_eq_true rfl
  · show noSA (nr.map pyI) = true
    clear h hl
    induction nr with
    | nil => rfl
    | cons r nr ih =>
      show (noSA (r.map PyData.int) && noSA (nr.map pyI)) = true
      rw [ih, noS_i]
      rfl
end W

/-! Y9: the walk's rules, all. -/
namespace W
open PySem PySem.Spec PyProof.Rows L2 Z
section
variable {size : Int} {ts : List (Int × Int)} {ws : List Int} {nr : List (List Int)}
theorem r_ties : rO (f_Yard_ties [.pl (yD size ts ws nr)]) = some (pO ts) := by
  refine rO_of ?_
  unfold f_Yard_ties
  rw [wO_mk]
  unfold m_Yard_ties
  rw [s_ret, w_m1x]
  simp only [w_mCons, w_m1x, w_mVar, w_mC, v_pl, y_ties, f_list_t, List.cons_append, List.getElem?_cons_zero]
end
end W

/-! T23: pieces, by the program and by the law. -/
namespace W
open PySem PySem.Spec PyProof.Rows L2 Z
local macro_rules | `(tactic| walk_at "w") => `(tactic| simp only [↓len_r1i, ↓len_r1p, ↓len_r1r, w_mC, w_mVar, w_m2x, w_m1x, w_mTst, w_mAnd, w_mOr, w_mNot, w_mIf, w_mBl, w_mFr, w_mSh, w_mCons, w_mRd, w_mRv, w_pVar, w_pIx, w_mCh, w_mYes', w_m2N, w_m1N, w_mStar, w_mSeq, w_mSl, w_mPart, x_mLook, x_mUse, x_mMov, x_mItV, x_mut, x_comp,
  s_next, s_seq, s_if, s_ret, s_asg, s_sto, s_own, s_drop, s_setI, s_augI, s_aug, s_bad, s_retN, s_brk, s_cnt, s_par, s_for,
  x_call1, x_call2, x_call3, x_call4, x_call5, x_call1s, x_call2s, x_call2t, x_call3s, x_call3t, x_call3u, x_call1b, x_call2b, x_call3b, x_call4b, x_meth0, x_meth1, x_meth2, x_meth1s, x_set, set_i, set_b, en_i, en_p, en_r, f_tupO2, f_tupO3, f_tup2d, fr_t2, fr_t3, slt_ow, ix_t0, ix_t1, ix_t2, wi_t0, wi_t1, og_t0, og_t1, op_t0, op_t1, f_eq_t2, f_ne_t2, o_size, o_wired, r_size, r_wired, x_mk, mk_ok, cut_map, ls_i, ls_r, ls_p, lst_rs, lst_is,
  f_add, f_sub, f_lt, f_le, f_gt, f_ge, f_mod, f_div, f_mul, f_eq, f_ne, f_neg, b_bl, l_sh, v_pl, o_ow, o_own, a_pl, k_pl, k_ow, u_pl, u_ow, mv_pl, mv_ow, i1_int, par2_ok, wF_some, g_nm, f_tp, g_cons, g_nil, wF_map,
  fr_i, fr_p, fr_rs, fr_b, fr_sh, sl_i, sl_p, sl_rs, sl_b, sl_sh, itv_i, itv_p, itv_rs, sq_i, sq_p, sq_r, is_i, is_p, is_r, il_i, il_p, il_rs, il_b,
  m_app_i, m_app_p, m_app_rs, m_app_b, m_rev_i, m_clr_i, m_rem_i, f_len_i, f_len_p, f_len_r, f_in_i, f_ni_i, f_ix_i, f_ix_p, f_ix_r, f_ix_b, p_fst, p_snd, f_list_i, f_list_t, f_list_r, mk_i, mk_p, mk_r, f_srt_i, f_srt_p, f_rev_i, f_rev_p, f_cat_i, f_cat_r, f_cat_p, f_rep_i, minL_map, maxL_map, sum_map, all_map, any_map, f_int1, f_intB, f_max2, f_min2,
  it_r1, it_r2, f_rg, itL_i, itL_p, itL_r, itL_b, itS_i, itS_r, f_lstM, f_lst0, f_lst1, f_lst2, f_lst3, f_lst4, f_lst5, f_lst6, f_lstr1, f_lstr2, f_eq_i, f_ne_i, f_eq_r, f_ne_r, f_eq_p, f_ne_p, f_eq_bl, f_ne_bl, rd_i, rd_b, rd_p, rd_rs, y_size, y_ties, y_wired, y_near, o_neighbours,
  isi_int, f_setL, f_srtU, f_srtS, f_is_bl, f_isn_bl, isi_bl, fr_dic, dic_nil, sl_dic, f_din, f_dni, f_dix, f_dic1, x_rdD, rd_dic, s_setD, set_dic, upF_const, o_ties, r_ties, isi_int_bl, isi_tup, isi_lst, isi_lt, sgx, spx, sgo, spo, og_nil, op_nil, restS, wipeS,
  List.getElem?_cons_zero, List.getElem?_cons_succ, List.set_cons_zero, List.set_cons_succ, List.getD_cons_zero, List.getD_cons_succ, List.cons_append, List.nil_append, List.append_nil, List.length_cons, List.length_nil, List.replicate_succ, List.replicate_zero, Nat.reduceSub, Nat.reduceAdd, true_and, and_true])
local macro_rules | `(tactic| walk_at "v") => `(tactic| simp only [↓len_r1i, ↓len_r1p, ↓len_r1r, w_mC, w_mVar, w_m2x, w_m1x, w_mTst, w_mAnd, w_mOr, w_mNot, w_mIf, w_mBl, w_mFr, w_mSh, w_mCons, w_mRd, w_mRv, w_pVar, w_pIx, w_mCh, w_mYes', w_m2N, w_m1N, w_mStar, w_mSeq, w_mSl, w_mPart, x_mLook, x_mUse, x_mMov, x_mItV, x_mut, x_comp,
  s_next, q_seq, kq_n, kq_r, kq_b, kq_c, s_ret, s_asg, s_sto, s_own, s_drop, s_setI, s_augI, s_aug, s_bad, s_retN, s_brk, s_cnt, s_par, s_for,
  x_call1, x_call2, x_call3, x_call4, x_call5, x_call1s, x_call2s, x_call2t, x_call3s, x_call3t, x_call3u, x_call1b, x_call2b, x_call3b, x_call4b, x_meth0, x_meth1, x_meth2, x_meth1s, x_set, set_i, set_b, en_i, en_p, en_r, f_tupO2, f_tupO3, f_tup2d, fr_t2, fr_t3, slt_ow, ix_t0, ix_t1, ix_t2, wi_t0, wi_t1, og_t0, og_t1, op_t0, op_t1, f_eq_t2, f_ne_t2, o_size, o_wired, r_size, r_wired, x_mk, mk_ok, cut_map, ls_i, ls_r, ls_p, lst_rs, lst_is,
  f_add, f_sub, f_lt, f_le, f_gt, f_ge, f_mod, f_div, f_mul, f_eq, f_ne, f_neg, b_bl, l_sh, v_pl, o_ow, o_own, a_pl, k_pl, k_ow, u_pl, u_ow, mv_pl, mv_ow, i1_int, par2_ok, wF_some, g_nm, f_tp, g_cons, g_nil, wF_map,
  fr_i, fr_p, fr_rs, fr_b, fr_sh, sl_i, sl_p, sl_rs, sl_b, sl_sh, itv_i, itv_p, itv_rs, sq_i, sq_p, sq_r, is_i, is_p, is_r, il_i, il_p, il_rs, il_b,
  m_app_i, m_app_p, m_app_rs, m_app_b, m_rev_i, m_clr_i, m_rem_i, f_len_i, f_len_p, f_len_r, f_in_i, f_ni_i, f_ix_i, f_ix_p, f_ix_r, f_ix_b, p_fst, p_snd, f_list_i, f_list_t, f_list_r, mk_i, mk_p, mk_r, f_srt_i, f_srt_p, f_rev_i, f_rev_p, f_cat_i, f_cat_r, f_cat_p, f_rep_i, minL_map, maxL_map, sum_map, all_map, any_map, f_int1, f_intB, f_max2, f_min2,
  it_r1, it_r2, f_rg, itL_i, itL_p, itL_r, itL_b, itS_i, itS_r, f_lstM, f_lst0, f_lst1, f_lst2, f_lst3, f_lst4, f_lst5, f_lst6, f_lstr1, f_lstr2, f_eq_i, f_ne_i, f_eq_r, f_ne_r, f_eq_p, f_ne_p, f_eq_bl, f_ne_bl, rd_i, rd_b, rd_p, rd_rs, y_size, y_ties, y_wired, y_near, o_neighbours,
  isi_int, f_setL, f_srtU, f_srtS, f_is_bl, f_isn_bl, isi_bl, fr_dic, dic_nil, sl_dic, f_din, f_dni, f_dix, f_dic1, x_rdD, rd_dic, s_setD, set_dic, upF_const, o_ties, r_ties, isi_int_bl, isi_tup, isi_lst, isi_lt, sgx, spx, sgo, spo, og_nil, op_nil, restS, wipeS,
  List.getElem?_cons_zero, List.getElem?_cons_succ, List.set_cons_zero, List.set_cons_succ, List.getD_cons_zero, List.getD_cons_succ, List.cons_append, List.nil_append, List.append_nil, List.length_cons, List.length_nil, List.replicate_succ, List.replicate_zero, Nat.reduceSub, Nat.reduceAdd, true_and, and_true])
/-- own rows in an own list -/
def osO (nr : List (List Int)) : O := .lst (nr.map iO)
theorem fr_os {nr : List (List Int)} : fr (osO nr) = rD nr := by
  show D.lst (frL (nr.map iO)) = .lst (nr.map iD)
  congr 1
  induction nr with
  | nil => rfl
  | cons r nr ih =>
    show fr (iO r) :: frL (nr.map iO) = _
    rw [ih, fr_i]
    rfl
theorem il_os {nr : List (List Int)} : isLstO (some (osO nr)) = true := rfl
theorem sl_os {nr : List (List Int)} : slOf (osO nr) = .ow (osO nr) := rfl
theorem os_nil : iO [] = osO [] := rfl
theorem m_app_os {nr : List (List Int)} {r : List Int} {P : D → O → Prop} : wMutO fApp (some (osO nr)) [iO r] P = (nr.length < 16777216 ∧ P .non (osO (nr ++ [r]))) := app_map (f := iO)
section
variable {n : Nat} {A : Int → Int → Prop} {nr : List (List Int)} {size : Int} {ts : List (Int × Int)} {ws up U : List Int} {p : Int}
theorem r_sign (hl : ts.length ≤ 100) (hw : ws.length ≤ 100) : rO (f_sign [.pl (yD size ts ws nr), .pl (iD up)]) = some (.sh (.int (sgnI ts ws up))) := by
  refine rO_of ?_
  unfold f_sign
  rw [wO_mk]
  unfold m_sign
  walk_at "w"
  refine ⟨⟨by rw [List.length_map]; omega, rfl⟩, ?_⟩
  refine cmp_p (insd up) (fun x hx => ?_) ?_
  · walk_at "w"
    refine ⟨fun h => ⟨?_, fun _ => trivial, fun _ => trivial⟩, fun h => ⟨?_, fun _ => trivial, fun _ => trivial⟩⟩
    · unfold insd isIn
      rw [h]
      simp
    · unfold insd isIn
      rw [h]
      simp
  · show wV _ _
    walk_at "w"
    refine ⟨⟨by rw [List.length_map]; omega, rfl⟩, ?_⟩
    refine cmp_f (isIn up) (fun x hx => ?_) ?_
    · walk_at "w"
      exact ⟨rfl, fun _ => trivial, fun _ => trivial⟩
    · walk_at "w"
      refine ⟨by omega, ?_⟩
      rfl
/-- growing: the piece so far, and what comes next -/
structure GrI (A : Int → Int → Prop) (U left : List Int) (p : Int) (piece more : List Int) : Prop where
  nd : (piece ++ more).Nodup
  sub : ∀ q ∈ piece ++ more, q ∈ left
  con : ∀ q ∈ piece ++ more, Con A U p q
  top : p ∈ piece ++ more
  clo : ∀ q ∈ piece, ∀ r ∈ left, A q r → r ∈ piece ++ more
def moreOf (nr : List (List Int)) (left piece : List Int) : List Int := left.filter fun q => !decide (q ∈ piece) && !decide ((nb nr q).filter (fun r => decide (r ∈ piece)) = [])
theorem GrI.next (hn : NearOk n A nr) (sym : ∀ u v, A u v → A v u) (hU : PosOk n U) {left piece more : List Int} (hl : ∀ q ∈ left, q ∈ U) (nl : left.Nodup) (h : GrI A U left p piece more) : GrI A U left p (piece ++ more) (moreOf nr left (piece ++ more)) := by
  have hm : ∀ q, q ∈ moreOf nr left (piece ++ more) ↔ q ∈ left ∧ q ∉ piece ++ more ∧ ∃ r ∈ piece ++ more, A q r := fun q => by
    unfold moreOf
    rw [List.mem_filter]
    constructor
    · rintro ⟨h1, h2⟩
      rw [Bool.and_eq_true, Bool.not_eq_true', Bool.not_eq_true', decide_eq_false_iff_not, decide_eq_false_iff_not] at h2
      refine ⟨h1, h2.1, ?_⟩
      obtain ⟨r, hr⟩ := List.exists_mem_of_ne_nil _ h2.2
      obtain ⟨h3, h4⟩ := List.mem_filter.mp hr
      have hq := hU.1 q (hl q h1)
      exact ⟨r, of_decide_eq_true h4, (hn.mem q hq.1 hq.2 r).mp h3⟩
    · rintro ⟨h1, h2, r, h3, h4⟩
      refine ⟨h1, ?_⟩
      rw [Bool.and_eq_true, Bool.not_eq_true', Bool.not_eq_true', decide_eq_false_iff_not, decide_eq_false_iff_not]
      refine ⟨h2, fun z => ?_⟩
      have hq := hU.1 q (hl q h1)
      have : r ∈ (nb nr q).filter (fun r => decide (r ∈ piece ++ more)) := List.mem_filter.mpr ⟨(hn.mem q hq.1 hq.2 r).mpr h4, decide_eq_true h3⟩
      rw [z] at this
      cases this
  refine ⟨?_, fun q hq => ?_, fun q hq => ?_, List.mem_append_left _ h.top, fun q hq r hr a => ?_⟩
  · refine List.nodup_append.mpr ⟨h.nd, nl.sublist List.filter_sublist, fun x hx y hy e => ?_⟩
    subst e
    exact ((hm _).mp hy).2.1 hx
  · rcases List.mem_append.mp hq with z | z
    · exact h.sub q z
    · exact ((hm q).mp z).1
  · rcases List.mem_append.mp hq with z | z
    · exact h.con q z
    · obtain ⟨h1, _, r, h3, h4⟩ := (hm q).mp z
      exact .step (h.con r h3) (sym _ _ h4) (hl q h1)
  · by_cases c : r ∈ piece ++ more
    · exact List.mem_append_left _ c
    · exact List.mem_append_right _ ((hm r).mpr ⟨hr, c, q, hq, sym _ _ a⟩)
/-- the rest, and that all comes to the pieces -/
structure LfI (n : Nat) (A : Int → Int → Prop) (U left : List Int) (s : List (List Int) × List Int) : Prop where
  ok : PcOk n A U s
  left : left = U.filter fun q => !decide (q ∈ s.2)
  all : pcGo A U U s = pcGo A U U ([], [])
theorem LfI.mem {left : List Int} {s : List (List Int) × List Int} (h : LfI n A U left s) {q : Int} : q ∈ left ↔ q ∈ U ∧ q ∉ s.2 := by
  rw [h.left, List.mem_filter, Bool.not_eq_true', decide_eq_false_iff_not]
theorem LfI.stop {s : List (List Int) × List Int} (h : LfI n A U [] s) : s.1 = pcs A U := by
  unfold pcs
  rw [← h.all, go_skip fun p hp => ?_]
  exact Classical.byContradiction fun z => absurd (h.mem.mpr ⟨hp, z⟩) (by simp)
theorem LfI.next (sym : ∀ u v, A u v → A v u) (hU : PosOk n U) {left : List Int} {s : List (List Int) × List Int} (h : LfI n A U left s) (hne : left ≠ []) (hp : p = left.headD 0) : LfI n A U (left.filter fun q => !decide (q ∈ comp A U p)) (s.1 ++ [comp A U p], s.2 ++ comp A U p) := by
  have hm : p ∈ left := hp ▸ head_mem hne
  obtain ⟨hpU, hpk⟩ := h.mem.mp hm
  have e1 : pcStep A U s p = (s.1 ++ [comp A U p], s.2 ++ comp A U p) := if_neg hpk
  refine ⟨e1 ▸ h.ok.step sym hU hpU, ?_, ?_⟩
  · rw [h.left, List.filter_filter]
    refine List.filter_congr fun q hq => ?_
    show (!decide (q ∈ comp A U p) && !decide (q ∈ s.2)) = !decide (q ∈ s.2 ++ comp A U p)
    by_cases a : q ∈ s.2 <;> by_cases b : q ∈ comp A U p <;> simp [a, b]
  · rw [← h.all]
    -- U = pre ++ p :: post
    obtain ⟨pre, post, eU⟩ := List.append_of_mem hpU
    have hpre : ∀ q ∈ pre, q ∈ s.2 := fun q hq => Classical.byContradiction fun z => by
      have hqU : q ∈ U := eU ▸ List.mem_append_left _ hq
      have hql : q ∈ left := h.mem.mpr ⟨hqU, z⟩
      have hlt : q < p := by
        have := hU.2
        rw [eU] at this
        exact (List.pairwise_append.mp this).2.2 q hq p List.mem_cons_self
      have hle : p ≤ q := by
        have hl : left.Pairwise (· < ·) := by
          rw [h.left]
          exact hU.2.sublist List.filter_sublist
        cases left with
        | nil => exact absurd rfl hne
        | cons x r =>
          have hx : p = x := hp
          rcases List.mem_cons.mp hql with e | e
          · omega
          · have := (List.pairwise_cons.mp hl).1 q e
            omega
      omega
    have k : ∀ s' : List (List Int) × List Int, (∀ q ∈ pre, q ∈ s'.2) → pcGo A U U s' = pcGo A U post (pcStep A U s' p) := fun s' hs' => by
      have : pcGo A U U s' = pcGo A U (pre ++ p :: post) s' := by rw [← eU]
      rw [this, go_app, go_skip hs']
      rfl
    rw [k s hpre, k _ fun q hq => List.mem_append_left _ (hpre q hq), e1]
    congr 1
    exact if_pos (List.mem_append_right _ (comp_mem.mpr (.refl hpU)))
def lpI (n : Nat) (A : Int → Int → Prop) (nr : List (List Int)) (U : List Int) (m : Nat) (S : List Sl) : Prop := ∃ (left : List Int) (s : List (List Int) × List Int) (a b : Sl), S = [.pl (rD nr), .pl (iD U), .ow (osO s.1), .pl (iD left), a, b, .no, .no] ∧ LfI n A U left s ∧ m = left.length
def lgI (A : Int → Int → Prop) (nr : List (List Int)) (U left : List Int) (s : List (List Int) × List Int) (p : Int) (m : Nat) (S : List Sl) : Prop := ∃ (piece more : List Int), S = [.pl (rD nr), .pl (iD U), .ow (osO s.1), .pl (iD left), .pl (iD piece), .pl (iD more), .no, .no] ∧ GrI A U left p piece more ∧ m = left.length - piece.length
theorem r_law_pieces (hn : NearOk n A nr) (sym : ∀ u v, A u v → A v u) (h60 : n ≤ 60) (hU : PosOk n U) : rO (f__law_pieces [.pl (rD nr), .pl (iD U)]) = some (osO (pcs A U)) := by
  have hl := hn.len
  have hUl := hU.len
  refine rO_of ?_
  unfold f__law_pieces
  rw [wO_mk]
  unfold m__law_pieces
  walk_at "v"
  rw [os_nil]
  refine s_while (lpI n A nr U) (m := U.length) (by omega) ⟨U, ([], []), _, _, rfl, ⟨PcOk.nil, ?_, rfl⟩, rfl⟩ ?_
  · refine (List.filter_eq_self.mpr fun q _ => ?_).symm
    rfl
  rintro m S ⟨left, s, a, b, rfl, hL, rfl⟩
  have hlU : ∀ q ∈ left, q ∈ U := fun q hq => (hL.mem.mp hq).1
  have hlp : PosOk n left := by rw [hL.left]; exact pos_filter hU _
  have hll := hlp.len
  walk_at "v"
  refine ⟨fun h => ?_, fun h => ?_⟩
  · have hne : left ≠ [] := by simpa using h
    obtain ⟨p, hp⟩ : ∃ p, p = left.headD 0 := ⟨_, rfl⟩
    have hpl : p ∈ left := hp ▸ head_mem hne
    rw [at_head hne, ← hp]
    walk_at "v"
    refine s_while (lgI A nr U left s p) (m := left.length) (by omega) ⟨[], [p], rfl, ⟨by simp, fun q hq => by simp at hq; rw [hq]; exact hpl, fun q hq => by simp at hq; rw [hq]; exact .refl (hlU p hpl), by simp, fun q hq => (nomatch hq)⟩, rfl⟩ ?_
    rintro m S ⟨piece, more, rfl, hG, rfl⟩
    have hpc : (piece ++ more).length ≤ left.length := sub_len hG.nd hG.sub
    rw [List.length_append] at hpc
    walk_at "v"
    refine ⟨fun h2 => ?_, fun h2 => ?_⟩
    · have hmne : more ≠ [] := by simpa using h2
      have hml : 0 < more.length := List.length_pos_iff.mpr hmne
      refine ⟨by omega, ⟨by rw [List.length_map]; omega, rfl⟩, ?_⟩
      refine cmp_f (fun q => !decide (q ∈ piece ++ more) && !decide ((nb nr q).filter (fun r => decide (r ∈ piece ++ more)) = [])) (fun q hq => ?_) ?_
      · have hqn := hlp.1 q hq
        have hnl := nb_len hn hqn
        walk_at "w"
        refine ⟨fun h3 => ?_, fun h3 => ?_⟩
        · rw [at_in (d := []) hqn.1 (by omega)]
          walk_at "w"
          have hnb : nr.getD q.toNat [] = nb nr q := rfl
          rw [hnb]
          refine ⟨⟨by rw [List.length_map]; omega, rfl⟩, ?_⟩
          refine cmp_f (fun r => decide (r ∈ piece ++ more)) (fun r hr => ?_) ?_
          · walk_at "w"
            exact ⟨fun _ => trivial, fun _ => trivial⟩
          · walk_at "w"
            refine ⟨?_, fun _ => trivial, fun _ => trivial⟩
            rw [h3, Bool.true_and]
        · refine ⟨?_, fun _ => trivial, fun _ => trivial⟩
          rw [h3, Bool.false_and]
      · walk_at "w"
        refine ⟨left.length - (piece ++ more).length, by rw [List.length_append]; omega, piece ++ more, moreOf nr left (piece ++ more), rfl, hG.next hn sym hU hlU hlp.nd, rfl⟩
    · have hmn : more = [] := by simpa using h2
      subst hmn
      have hnd : piece.Nodup := by have := hG.nd; rwa [List.append_nil] at this
      have htop : p ∈ piece := by have := hG.top; rwa [List.append_nil] at this
      have hcon : ∀ q ∈ piece, Con A U p q := fun q hq => hG.con q (List.mem_append_left _ hq)
      have hclo : Clo A U piece := fun q hq r hr a => by
        have hqU := hL.mem.mp (hG.sub q (List.mem_append_left _ hq))
        have := hG.clo q hq r (hL.mem.mpr ⟨hr, fun z => hqU.2 (hL.ok.clo r z q hqU.1 (sym _ _ a))⟩) a
        rwa [List.append_nil] at this
      have hsrt : srtI piece = comp A U p := comp_is hU hnd htop hcon hclo
      have hlen := hL.ok.len
      have hlen2 := len_le_n (fun v hv => hU.1 v (hL.ok.sub v hv)) hL.ok.nd
      simp only [il_os, m_app_os, hsrt, true_and]
      refine ⟨by omega, ⟨by rw [List.length_map]; omega, rfl⟩, ?_⟩
      refine cmp_f (fun q => !decide (q ∈ comp A U p)) (fun q hq => ?_) ?_
      · walk_at "w"
        refine ⟨?_, fun _ => trivial, fun _ => trivial⟩
        congr 1
        rw [decide_eq_decide, ← hsrt, srt_mem]
      · walk_at "w"
        refine ⟨_, ?_, left.filter (fun q => !decide (q ∈ comp A U p)), (s.1 ++ [comp A U p], s.2 ++ comp A U p), _, _, rfl, hL.next sym hU hne hp, rfl⟩
        have h1 := filt_two (f := fun q => !decide (q ∈ comp A U p)) left
        have h2 : 0 < (left.filter fun q => !!decide (q ∈ comp A U p)).length := List.length_pos_of_mem (List.mem_filter.mpr ⟨hpl, by simp [comp_mem.mpr (Con.refl (hlU p hpl))]⟩)
        omega
  · have hmn : left = [] := by simpa using h
    subst hmn
    rw [hL.stop]
/-- the search: the piece so far, the known ones -/
structure BfI (A : Int → Int → Prop) (U : List Int) (s : List (List Int) × List Int) (p : Int) (piece K : List Int) (at_ : Nat) : Prop where
  nd : piece.Nodup
  con : ∀ q ∈ piece, Con A U p q
  top : p ∈ piece
  kn : ∀ q, q ∈ K ↔ q ∈ s.2 ∨ q ∈ piece
  knd : K.Nodup
  le : at_ ≤ piece.length
  clo : ∀ (j : Nat) (q : Int), j < at_ → piece[j]? = some q → ∀ r ∈ U, A q r → r ∈ piece
def bfS (y : D) (U : List Int) (F : List (List Int)) (K : List Int) (p : Int) (piece : List Int) (at_ : Int) (x : Sl) : List Sl := [.pl y, .pl (iD U), .ow (osO F), .ow (dicO K fun _ => .bl true), .pl (.int p), .ow (iO piece), .pl (.int at_), x]
def pcI (n : Nat) (A : Int → Int → Prop) (y : D) (U : List Int) (i : Nat) (S : List Sl) : Prop := ∃ (K : List Int) (a b c d : Sl), S = [.pl y, .pl (iD U), .ow (osO (pcGo A U (U.take i) ([], [])).1), .ow (dicO K fun _ => .bl true), a, b, c, d] ∧ K.Nodup ∧ ∀ q, q ∈ K ↔ q ∈ (pcGo A U (U.take i) ([], [])).2
theorem r_pieces (hn : NearOk n A nr) (sym : ∀ u v, A u v → A v u) (h60 : n ≤ 60) (hs : size = n) (hU : PosOk n U) : rO (f_pieces [.pl (yD size ts ws nr), .pl (iD U)]) = some (osO (pcs A U)) := by
  have hl := hn.len
  have hUl := hU.len
  refine rO_of ?_
  unfold f_pieces
  rw [wO_mk]
  unfold m_pieces
  walk_at "w"
  rw [os_nil]
  refine for_map (pcI n A (yD size ts ws nr) U) ⟨[], _, _, _, _, rfl, List.nodup_nil, fun q => Iff.rfl⟩ ?_ ?_
  · rintro i p S hp ⟨K, a, b, c, d, rfl, hKn, hK⟩
    have hpU : p ∈ U := List.mem_of_getElem? hp
    have hok : PcOk n A U (pcGo A U (U.take i) ([], [])) := PcOk.nil.go sym hU fun q hq => List.mem_of_mem_take hq
    have hst := go_snoc (A := A) (U := U) (s := ([], [])) hp
    have hKl : K.length ≤ n := len_le_n (fun v hv => hU.1 v (hok.sub v ((hK v).mp hv))) hKn
    unfold pcI
    rw [hst]
    generalize pcGo A U (U.take i) ([], []) = s at *
    walk_at "w"
    refine ⟨fun h => ?_, fun h => ?_⟩
    · have hpk : p ∉ K := by simpa using h
      have hps : p ∉ s.2 := fun z => hpk ((hK p).mpr z)
      rw [if_neg hpk]
      refine ⟨by omega, ?_⟩
      refine s_while (fun m S => ∃ (piece K' : List Int) (at_ : Nat) (x : Sl), S = bfS (yD size ts ws nr) U s.1 K' p piece at_ x ∧ BfI A U s p piece K' at_ ∧ m = n - at_) (m := n) (by omega) ⟨[p], K ++ [p], 0, d, rfl, ⟨by simp, fun q hq => by simp at hq; rw [hq]; exact .refl hpU, by simp, fun q => by rw [List.mem_append, hK], ?_, by simp, fun j q z => absurd z (Nat.not_lt_zero j)⟩, rfl⟩ ?_
      · refine List.nodup_append.mpr ⟨hKn, by simp, fun x hx y hy e => ?_⟩
        simp at hy
        exact hpk (hy ▸ e ▸ hx)
      · rintro m S ⟨piece, K', at_, x, rfl, hB, rfl⟩
        have hpl : piece.length ≤ n := len_le_n (fun v hv => hU.1 v (hB.con v hv).right) hB.nd
        unfold bfS
        walk_at "w"
        refine ⟨fun h2 => ?_, fun h2 => ?_⟩
        · have hat : at_ < piece.length := by have := of_decide_eq_true h2; omega
          obtain ⟨q, hq⟩ : ∃ q, piece[at_]? = some q := ⟨_, List.getElem?_eq_getElem hat⟩
          have hq2 : piece.getD at_ 0 = q := by rw [List.getD_eq_getElem?_getD, hq]; rfl
          have hqm : q ∈ piece := List.mem_of_getElem? hq
          have hqU := (hB.con q hqm).right
          have hqn := hU.1 q hqU
          rw [at_in (d := 0) (by omega) (by omega)]
          walk_at "w"
          rw [Int.toNat_natCast, hq2, r_neighbours hqn.1 (by omega) (by omega)]
          walk_at "w"
          refine for_map (fun k S => ∃ (more K2 : List Int) (x : Sl), S = bfS (yD size ts ws nr) U s.1 K2 p (piece ++ more) at_ x ∧ BfI A U s p (piece ++ more) K2 at_ ∧ ∀ r ∈ (nb nr q).take k, r ∈ U → r ∈ piece ++ more) ⟨[], K', x, by rw [List.append_nil]; rfl, by rw [List.append_nil]; exact hB, fun r hr => (by cases hr)⟩ ?_ ?_
          · rintro k r S hr ⟨more, K2, x2, rfl, hB2, hT⟩
            have hrn := hn.inn q hqn.1 hqn.2 r (List.mem_of_getElem? hr)
            have hqr : A q r := (hn.mem q hqn.1 hqn.2 r).mp (List.mem_of_getElem? hr)
            have hK2l : K2.length ≤ n := len_le_n (fun v hv => by
              rcases (hB2.kn v).mp hv with z | z
              · exact hU.1 v (hok.sub v z)
              · exact hU.1 v (hB2.con v z).right) hB2.knd
            have hpl2 : (piece ++ more).length ≤ n := len_le_n (fun v hv => hU.1 v (hB2.con v hv).right) hB2.nd
            have htk : ∀ (T : List Int), (∀ r ∈ (nb nr q).take k, r ∈ U → r ∈ T) → (r ∈ U → r ∈ T) → ∀ z ∈ (nb nr q).take (k + 1), z ∈ U → z ∈ T := fun T h1 h2 z hz hzU => by
              obtain ⟨hlt, he⟩ := List.getElem?_eq_some_iff.mp hr
              rw [List.take_succ_eq_append_getElem hlt, he] at hz
              rcases List.mem_append.mp hz with w | w
              · exact h1 z w hzU
              · simp at w; rw [w]; exact h2 (w ▸ hzU)
            unfold bfS
            walk_at "w"
            refine ⟨fun h3 => ⟨fun h4 => ?_, fun h4 => ?_⟩, fun h3 => ?_⟩
            · have hrU : r ∈ U := of_decide_eq_true h3
              have hrK : r ∉ K2 := by simpa using h4
              rw [if_neg hrK]
              have hrp : r ∉ piece ++ more := fun z => hrK ((hB2.kn r).mpr (.inr z))
              refine ⟨by omega, by omega, more ++ [r], K2 ++ [r], _, by rw [← List.append_assoc], ?_, ?_⟩
              · rw [← List.append_assoc]
                refine ⟨?_, fun z hz => ?_, List.mem_append_left _ hB2.top, fun z => ?_, ?_, by rw [List.length_append]; have := hB2.le; omega, fun j z hj hz w hw a => ?_⟩
                · refine List.nodup_append.mpr ⟨hB2.nd, by simp, fun x hx y hy e => ?_⟩
                  simp at hy
                  exact hrp (hy ▸ e ▸ hx)
                · rcases List.mem_append.mp hz with w | w
                  · exact hB2.con z w
                  · simp at w
                    rw [w]
                    exact .step (hB2.con q (List.mem_append_left _ hqm)) hqr hrU
                · rw [List.mem_append, List.mem_append, hB2.kn z]
                  constructor
                  · rintro ((w | w) | w)
                    · exact .inl w
                    · exact .inr (.inl w)
                    · exact .inr (.inr w)
                  · rintro (w | w | w)
                    · exact .inl (.inl w)
                    · exact .inl (.inr w)
                    · exact .inr w
                · refine List.nodup_append.mpr ⟨hB2.knd, by simp, fun x hx y hy e => ?_⟩
                  simp at hy
                  exact hrK (hy ▸ e ▸ hx)
                · have := hB2.le
                  rw [List.getElem?_append_left (by omega)] at hz
                  exact List.mem_append_left _ (hB2.clo j z hj hz w hw a)
              · rw [← List.append_assoc]
                exact htk _ (fun z hz hzU => List.mem_append_left _ (hT z hz hzU)) fun _ => by simp
            · have hrK : r ∈ K2 := by simpa using h4
              have hrU : r ∈ U := of_decide_eq_true h3
              refine ⟨more, K2, _, rfl, hB2, htk _ hT fun _ => ?_⟩
              rcases (hB2.kn r).mp hrK with w | w
              · exact absurd w (hok.out sym hps (.step (hB.con q hqm) hqr hrU))
              · exact w
            · have hrU : r ∉ U := of_decide_eq_false h3
              exact ⟨fun z => (by cases z), fun _ => ⟨more, K2, _, rfl, hB2, htk _ hT fun z => absurd z hrU⟩⟩
          · rintro S ⟨more, K2, x2, rfl, hB2, hT⟩
            rw [List.take_length] at hT
            unfold bfS
            walk_at "w"
            refine ⟨n - (at_ + 1), by omega, piece ++ more, K2, at_ + 1, x2, rfl, ⟨hB2.nd, hB2.con, hB2.top, hB2.kn, hB2.knd, by rw [List.length_append]; omega, fun j z hj hz w hw a => ?_⟩, rfl⟩
            by_cases e : j = at_
            · subst e
              rw [List.getElem?_append_left hat, hq] at hz
              cases hz
              exact hT w ((hn.mem q hqn.1 hqn.2 w).mpr a) hw
            · exact hB2.clo j z (by omega) hz w hw a
        · have hat : at_ = piece.length := by have := of_decide_eq_false h2; have := hB.le; omega
          have hclo : Clo A U piece := fun q hq r hr a => by
            obtain ⟨j, hj, he⟩ := List.getElem_of_mem hq
            exact hB.clo j q (by omega) (by rw [List.getElem?_eq_getElem hj, he]) r hr a
          have hsrt : srtI piece = comp A U p := comp_is hU hB.nd hB.top hB.con hclo
          have hlen := hok.len
          have hlen2 := len_le_n (fun v hv => hU.1 v (hok.sub v hv)) hok.nd
          have e1 : pcStep A U s p = (s.1 ++ [comp A U p], s.2 ++ comp A U p) := if_neg hps
          simp only [il_os, m_app_os, hsrt, true_and]
          refine ⟨by omega, K', _, _, _, _, by rw [e1], hB.knd, fun q => ?_⟩
          rw [hB.kn q, e1]
          show _ ↔ q ∈ s.2 ++ comp A U p
          rw [List.mem_append, ← hsrt, srt_mem]
    · have hpk : p ∈ K := by simpa using h
      have e1 : pcStep A U s p = s := if_pos ((hK p).mp hpk)
      rw [e1]
      exact ⟨K, _, _, _, _, rfl, hKn, hK⟩
  · rintro S ⟨K, a, b, c, d, rfl, hKn, hK⟩
    walk_at "w"
    rw [List.take_length]
    rfl
end
end W

/-! T24: yards rewired. -/
namespace W
open PySem PySem.Spec PyProof.Rows L2 Z
local macro_rules | `(tactic| walk_at "w") => `(tactic| simp only [↓len_r1i, ↓len_r1p, ↓len_r1r, w_mC, w_mVar, w_m2x, w_m1x, w_mTst, w_mAnd, w_mOr, w_mNot, w_mIf, w_mBl, w_mFr, w_mSh, w_mCons, w_mRd, w_mRv, w_pVar, w_pIx, w_mCh, w_mYes', w_m2N, w_m1N, w_mStar, w_mSeq, w_mSl, w_mPart, x_mLook, x_mUse, x_mMov, x_mItV, x_mut, x_comp,
  s_next, s_seq, s_if, s_ret, s_asg, s_sto, s_own, s_drop, s_setI, s_augI, s_aug, s_bad, s_retN, s_brk, s_cnt, s_par, s_for,
  x_call1, x_call2, x_call3, x_call4, x_call5, x_call1s, x_call2s, x_call2t, x_call3s, x_call3t, x_call3u, x_call1b, x_call2b, x_call3b, x_call4b, x_meth0, x_meth1, x_meth2, x_meth1s, x_set, set_i, set_b, en_i, en_p, en_r, f_tupO2, f_tupO3, f_tup2d, fr_t2, fr_t3, slt_ow, ix_t0, ix_t1, ix_t2, wi_t0, wi_t1, og_t0, og_t1, op_t0, op_t1, f_eq_t2, f_ne_t2, o_size, o_wired, r_size, r_wired, x_mk, mk_ok, cut_map, ls_i, ls_r, ls_p, lst_rs, lst_is,
  f_add, f_sub, f_lt, f_le, f_gt, f_ge, f_mod, f_div, f_mul, f_eq, f_ne, f_neg, b_bl, l_sh, v_pl, o_ow, o_own, a_pl, k_pl, k_ow, u_pl, u_ow, mv_pl, mv_ow, i1_int, par2_ok, wF_some, g_nm, f_tp, g_cons, g_nil, wF_map,
  fr_i, fr_p, fr_rs, fr_b, fr_sh, sl_i, sl_p, sl_rs, sl_b, sl_sh, itv_i, itv_p, itv_rs, sq_i, sq_p, sq_r, is_i, is_p, is_r, il_i, il_p, il_rs, il_b,
  m_app_i, m_app_p, m_app_rs, m_app_b, m_rev_i, m_clr_i, m_rem_i, f_len_i, f_len_p, f_len_r, f_in_i, f_ni_i, f_ix_i, f_ix_p, f_ix_r, f_ix_b, p_fst, p_snd, f_list_i, f_list_t, f_list_r, mk_i, mk_p, mk_r, f_srt_i, f_srt_p, f_rev_i, f_rev_p, f_cat_i, f_cat_r, f_cat_p, f_rep_i, minL_map, maxL_map, sum_map, all_map, any_map, f_int1, f_intB, f_max2, f_min2,
  it_r1, it_r2, f_rg, itL_i, itL_p, itL_r, itL_b, itS_i, itS_r, f_lstM, f_lst0, f_lst1, f_lst2, f_lst3, f_lst4, f_lst5, f_lst6, f_lstr1, f_lstr2, f_eq_i, f_ne_i, f_eq_r, f_ne_r, f_eq_p, f_ne_p, f_eq_bl, f_ne_bl, rd_i, rd_b, rd_p, rd_rs, y_size, y_ties, y_wired, y_near, o_neighbours,
  isi_int, f_setL, f_srtU, f_srtS, f_is_bl, f_isn_bl, isi_bl, fr_dic, dic_nil, sl_dic, f_din, f_dni, f_dix, f_dic1, x_rdD, rd_dic, s_setD, set_dic, upF_const, o_ties, r_ties, isi_int_bl, isi_tup, isi_lst, isi_lt, sgx, spx, sgo, spo, og_nil, op_nil, restS, wipeS,
  List.getElem?_cons_zero, List.getElem?_cons_succ, List.set_cons_zero, List.set_cons_succ, List.getD_cons_zero, List.getD_cons_succ, List.cons_append, List.nil_append, List.append_nil, List.length_cons, List.length_nil, List.replicate_succ, List.replicate_zero, Nat.reduceSub, Nat.reduceAdd, true_and, and_true])
local macro_rules | `(tactic| walk_at "v") => `(tactic| simp only [↓len_r1i, ↓len_r1p, ↓len_r1r, w_mC, w_mVar, w_m2x, w_m1x, w_mTst, w_mAnd, w_mOr, w_mNot, w_mIf, w_mBl, w_mFr, w_mSh, w_mCons, w_mRd, w_mRv, w_pVar, w_pIx, w_mCh, w_mYes', w_m2N, w_m1N, w_mStar, w_mSeq, w_mSl, w_mPart, x_mLook, x_mUse, x_mMov, x_mItV, x_mut, x_comp,
  s_next, q_seq, kq_n, kq_r, kq_b, kq_c, s_ret, s_asg, s_sto, s_own, s_drop, s_setI, s_augI, s_aug, s_bad, s_retN, s_brk, s_cnt, s_par, s_for,
  x_call1, x_call2, x_call3, x_call4, x_call5, x_call1s, x_call2s, x_call2t, x_call3s, x_call3t, x_call3u, x_call1b, x_call2b, x_call3b, x_call4b, x_meth0, x_meth1, x_meth2, x_meth1s, x_set, set_i, set_b, en_i, en_p, en_r, f_tupO2, f_tupO3, f_tup2d, fr_t2, fr_t3, slt_ow, ix_t0, ix_t1, ix_t2, wi_t0, wi_t1, og_t0, og_t1, op_t0, op_t1, f_eq_t2, f_ne_t2, o_size, o_wired, r_size, r_wired, x_mk, mk_ok, cut_map, ls_i, ls_r, ls_p, lst_rs, lst_is,
  f_add, f_sub, f_lt, f_le, f_gt, f_ge, f_mod, f_div, f_mul, f_eq, f_ne, f_neg, b_bl, l_sh, v_pl, o_ow, o_own, a_pl, k_pl, k_ow, u_pl, u_ow, mv_pl, mv_ow, i1_int, par2_ok, wF_some, g_nm, f_tp, g_cons, g_nil, wF_map,
  fr_i, fr_p, fr_rs, fr_b, fr_sh, sl_i, sl_p, sl_rs, sl_b, sl_sh, itv_i, itv_p, itv_rs, sq_i, sq_p, sq_r, is_i, is_p, is_r, il_i, il_p, il_rs, il_b,
  m_app_i, m_app_p, m_app_rs, m_app_b, m_rev_i, m_clr_i, m_rem_i, f_len_i, f_len_p, f_len_r, f_in_i, f_ni_i, f_ix_i, f_ix_p, f_ix_r, f_ix_b, p_fst, p_snd, f_list_i, f_list_t, f_list_r, mk_i, mk_p, mk_r, f_srt_i, f_srt_p, f_rev_i, f_rev_p, f_cat_i, f_cat_r, f_cat_p, f_rep_i, minL_map, maxL_map, sum_map, all_map, any_map, f_int1, f_intB, f_max2, f_min2,
  it_r1, it_r2, f_rg, itL_i, itL_p, itL_r, itL_b, itS_i, itS_r, f_lstM, f_lst0, f_lst1, f_lst2, f_lst3, f_lst4, f_lst5, f_lst6, f_lstr1, f_lstr2, f_eq_i, f_ne_i, f_eq_r, f_ne_r, f_eq_p, f_ne_p, f_eq_bl, f_ne_bl, rd_i, rd_b, rd_p, rd_rs, y_size, y_ties, y_wired, y_near, o_neighbours,
  isi_int, f_setL, f_srtU, f_srtS, f_is_bl, f_isn_bl, isi_bl, fr_dic, dic_nil, sl_dic, f_din, f_dni, f_dix, f_dic1, x_rdD, rd_dic, s_setD, set_dic, upF_const, o_ties, r_ties, isi_int_bl, isi_tup, isi_lst, isi_lt, sgx, spx, sgo, spo, og_nil, op_nil, restS, wipeS,
  List.getElem?_cons_zero, List.getElem?_cons_succ, List.set_cons_zero, List.set_cons_succ, List.getD_cons_zero, List.getD_cons_succ, List.cons_append, List.nil_append, List.append_nil, List.length_cons, List.length_nil, List.replicate_succ, List.replicate_zero, Nat.reduceSub, Nat.reduceAdd, true_and, and_true])
section
variable {n : Nat} {size : Int} {ts tss : List (Int × Int)} {ws ws' up : List Int} {nr : List (List Int)}
theorem r_are_posts0 : rO (f_are_posts [.pl (.tup []), .pl (.int size)]) = some (.sh (.bl true)) := by
  rfl
theorem sort_t0 {P : O → Prop} : wF (mNew true gSort [.tup []]) P = P (iO []) := by
  have e1 : srtI [] = [] := (srtI_perm []).eq_nil
  show wF (((some (((srtI []).map D.int))) : Option (List D)).bind (mkL true)) P = _
  rw [e1]
  rfl
theorem init_nil {Q : O → List Sl → Prop} (hs : size = n) (hn : 1 ≤ n) (hn2 : n ≤ 60) (h : TreeOk n ts)
    (k : ∀ S, S.getD 0 .no = .ow (yardO size n ts []) → Q (.sh .non) S) : wO (f_Yard___init__ [.ow (.obj "Yard" [] []), .pl (.int size), .pl (pD ts), .pl (.tup [])]) Q := by
  have hlen := tree_len h
  unfold f_Yard___init__
  rw [wO_mk]
  unfold m_Yard___init__
  simp only [s_seq, s_if, w_mOr, w_mNot, w_mTst, w_mFr, s_next]
  refine c_pure1 (d := .int size) (by simp [w_mVar, v_pl]) (is_integer_ok fun S => ?_)
  simp only [fr, b_bl]
  refine ⟨fun z => (by cases z), fun _ => ?_⟩
  simp only [w_mCh, w_mVar, w_mC]
  simp only [List.cons_append, List.getElem?_cons_succ, List.getElem?_cons_zero, v_pl, f_le, b_bl, wF_some]
  refine ⟨fun _ => ?_, fun z => absurd z (by simp; omega)⟩
  refine ⟨fun z => absurd z (by simp; omega), fun _ => ?_⟩
  simp only [pD, w_m1x, w_m2x, w_mVar, w_mC, w_mCons, List.getElem?_cons_succ, List.getElem?_cons_zero, v_pl, isi_lt, b_bl, f_len, f_sub, f_gt, List.length_map]
  rw [isi_l1]
  simp only [b_bl]
  refine ⟨fun z => (by cases z), fun _ => ?_⟩
  refine ⟨fun z => absurd z (by simp; omega), fun _ => ?_⟩
  refine c_pure2 (d := .tup []) (e := .int size) (by simp [w_mVar, v_pl]) (by simp [w_mVar, v_pl]) (wO_rO r_are_posts0 fun S => ?_)
  simp only [fr, b_bl]
  refine ⟨fun z => (by cases z), fun _ => ?_⟩
  simp only [s_drop]
  refine c_pure2 (d := .int size) (e := .lst (ts.map Z.pairD)) (by simp [w_mVar, v_pl]) (by simp [w_mVar, v_pl]) (check_tree_ok hs hn hn2 h fun S => ?_)
  simp only [s_setF, w_mSh, w_mVar, w_pVar, w_m1x, w_mCons, w_mC, List.getElem?_cons_succ, List.getElem?_cons_zero, v_pl, o_ow, sg0, og_nil, sp0, op_nil, wSF, f_sortI, f_sortQ, sort_t0, put0, put1, put2]
  refine ⟨⟨trivial, by decide⟩, ⟨trivial, by decide⟩, ⟨trivial, by decide⟩, ?_⟩
  refine c_pure2 (d := .int size) (e := .lst (ts.map Z.pairD)) (by simp [w_mVar, v_pl]) (by simp [w_mVar, v_pl]) (near_of_ok hs hn2 (by omega) (tree_tie h) fun S => ?_)
  refine ⟨⟨rfl, by decide⟩, k _ ?_⟩
  have e : O.lst ((srtP ts).map fun t => O.sh (Z.pairD t)) = O.lst (List.map O.sh (List.map Z.pairD (srtP ts))) := by rw [List.map_map]; rfl
  have e1 : srtI [] = [] := (srtI_perm []).eq_nil
  unfold yardO
  rw [e, e1]
  rfl
theorem tree_srt (h : TreeOk n ts) : TreeOk n (srtP ts) := by
  obtain ⟨order, ps, a, b, c, d⟩ := h
  exact ⟨order, ps, a, b, c, (srtP_perm ts).trans d⟩
theorem o_rewired {P : Prop} : wOb "Yard" "rewired" (yD size ts ws nr) P = P := by
  have : yardF.contains "rewired" = false := by decide
  show ((("Yard" : Str) = "Yard" ∧ yardF.contains "rewired" = false) ∧ P) = P
  rw [this]
  simp
theorem r_rewired0 (hs : size = n) (hn : 1 ≤ n) (hn2 : n ≤ 60) (h : TreeOk n ts) : rO (f_Yard_rewired [.pl (yD size ts ws nr), .pl (.tup [])]) = some (yardO size n ts []) := by
  refine rO_of ?_
  unfold f_Yard_rewired
  rw [wO_mk]
  unfold m_Yard_rewired
  walk_at "w"
  rw [r_are_posts0]
  walk_at "w"
  refine ⟨fun z => (by cases z), fun _ => ?_⟩
  refine init_nil hs hn hn2 h fun S5 e5 => ?_
  simp only [e5]
  walk_at "w"
theorem r_rewired (hs : size = n) (hn : 1 ≤ n) (hn2 : n ≤ 60) (h : TreeOk n ts) (hw : PosOk n ws') : rO (f_Yard_rewired [.pl (yD size ts ws nr), .pl (iD ws')]) = some (yardO size n ts ws') := by
  have hap : rO (f_are_posts [.pl (iD ws'), .pl (.int size)]) = some (.sh (.bl true)) := rO_of (are_posts_ok (fun w hw' => by have := hw.1 w hw'; omega) hw.nd (by have := hw.len; omega) fun _ => rfl)
  refine rO_of ?_
  unfold f_Yard_rewired
  rw [wO_mk]
  unfold m_Yard_rewired
  walk_at "w"
  rw [hap]
  walk_at "w"
  refine ⟨fun z => (by cases z), fun _ => ?_⟩
  refine t_init hs hn hn2 h hw fun S5 e5 => ?_
  simp only [e5]
  walk_at "w"
end
theorem f_rev_r {nr : List (List Int)} {P : List D → Prop} : wF (dRevL (rD nr)) P = P (nr.reverse.map iD) := by
  show P (nr.map iD).reverse = _
  rw [← List.map_reverse]
theorem wi_l0 {a : O} {r : List O} {P : Nat → Prop} : wI (some (.lst (a :: r))) (.int 0) P = P 0 := by
  show wF (ixN (a :: r).length 0) P = _
  rw [ixN_ok (by omega) (by simp)]
  rfl
theorem og_l0 {a : O} {r : List O} : oget (.lst (a :: r)) [.ix 0] = some a := rfl
theorem op_l0 {a n : O} {r : List O} : oput (.lst (a :: r)) [.ix 0] n = .lst (n :: r) := rfl
theorem f_tup0 {P : O → Prop} : wF (dTup []) P = P (.tup []) := by
  unfold dTup
  rw [decide_eq_true (by rw [sl_16]; simp)]
  rfl
theorem fr_t0 : fr (.tup []) = .tup [] := rfl
theorem reps_int {i : Int} (h : i.natAbs < 10 ^ 12) : RepS (.int i) := by
  have hl := log_41 h
  refine ⟨.int i, rfl, repOk_of rfl (Nat.zero_le _) ?_ ?_ ?_, rfl, ?_, rfl⟩
  · show (if i == 0 then 0 else i.natAbs.log2 + 1) ≤ 2 ^ 20
    split <;> omega
  · have := PyData.intsShortAll_ints [i] (fun n hn => by simp at hn; rw [hn]; exact h)
    have e : PyData.intsShortAll 13 ([i].map PyData.int) = ((PyData.int i).intsShort 13 && true) := rfl
    rw [e, Bool.and_true] at this
    exact this
  · show decide (i.natAbs.log2 < 1920) = true
    exact decide_eq_true (log_small h)
  · show (i == i) = true
    exact beq_self_eq_true i
theorem m_app_x {ns : List Int} {o : O} {P : D → O → Prop} : wMutO fApp (some (iO ns)) [o] P = (ns.length < 16777216 ∧ P .non (.lst ((ns.map fun n => .sh (.int n)) ++ [o]))) := by
  unfold wMutO fApp iO
  simp only [List.length_map, sl_16]
  by_cases h : ns.length < 16777216
  · simp only [decide_eq_true h]
    simp only [h, true_and]
  · simp only [decide_eq_false h]
    simp only [h, false_and]
theorem ix_l0 {a : D} {r : List D} {P : D → Prop} : wF (dIx (.lst (a :: r)) (.int 0)) P = P a := by
  show wF (atI (a :: r) 0) P = _
  rw [at_in (d := a) (by omega) (by simp)]
  rfl
theorem ix_l1 {a b : D} {r : List D} {P : D → Prop} : wF (dIx (.lst (a :: b :: r)) (.int 1)) P = P b := by
  show wF (atI (a :: b :: r) 1) P = _
  rw [at_in (d := a) (by omega) (by simp; omega)]
  rfl
end W

/-! the law k23 -/
namespace W
open PySem PySem.Spec PyProof.Rows L2 Z
local macro_rules | `(tactic| walk_at "w") => `(tactic| simp only [↓len_r1i, ↓len_r1p, ↓len_r1r, w_mC, w_mVar, w_m2x, w_m1x, w_mTst, w_mAnd, w_mOr, w_mNot, w_mIf, w_mBl, w_mFr, w_mSh, w_mCons, w_mRd, w_mRv, w_pVar, w_pIx, w_mCh, w_mYes', w_m2N, w_m1N, w_mStar, w_mSeq, w_mSl, w_mPart, x_mLook, x_mUse, x_mMov, x_mItV, x_mut, x_comp,
  s_next, s_seq, s_if, s_ret, s_asg, s_sto, s_own, s_drop, s_setI, s_augI, s_aug, s_bad, s_retN, s_brk, s_cnt, s_par, s_for,
  x_call1, x_call2, x_call3, x_call4, x_call5, x_call1s, x_call2s, x_call2t, x_call3s, x_call3t, x_call3u, x_call1b, x_call2b, x_call3b, x_call4b, x_meth0, x_meth1, x_meth2, x_meth1s, x_set, set_i, set_b, en_i, en_p, en_r, f_tupO2, f_tupO3, f_tup2d, fr_t2, fr_t3, slt_ow, ix_t0, ix_t1, ix_t2, wi_t0, wi_t1, og_t0, og_t1, op_t0, op_t1, f_eq_t2, f_ne_t2, o_size, o_wired, r_size, r_wired, x_mk, mk_ok, cut_map, ls_i, ls_r, ls_p, lst_rs, lst_is,
  f_add, f_sub, f_lt, f_le, f_gt, f_ge, f_mod, f_div, f_mul, f_eq, f_ne, f_neg, b_bl, l_sh, v_pl, o_ow, o_own, a_pl, k_pl, k_ow, u_pl, u_ow, mv_pl, mv_ow, i1_int, par2_ok, wF_some, g_nm, f_tp, g_cons, g_nil, wF_map,
  fr_i, fr_p, fr_rs, fr_b, fr_sh, sl_i, sl_p, sl_rs, sl_b, sl_sh, itv_i, itv_p, itv_rs, sq_i, sq_p, sq_r, is_i, is_p, is_r, il_i, il_p, il_rs, il_b,
  m_app_i, m_app_p, m_app_rs, m_app_b, m_rev_i, m_clr_i, m_rem_i, f_len_i, f_len_p, f_len_r, f_in_i, f_ni_i, f_ix_i, f_ix_p, f_ix_r, f_ix_b, p_fst, p_snd, f_list_i, f_list_t, f_list_r, mk_i, mk_p, mk_r, f_srt_i, f_srt_p, f_rev_i, f_rev_p, f_cat_i, f_cat_r, f_cat_p, f_rep_i, minL_map, maxL_map, sum_map, all_map, any_map, f_int1, f_intB, f_max2, f_min2,
  it_r1, it_r2, f_rg, itL_i, itL_p, itL_r, itL_b, itS_i, itS_r, f_lstM, f_lst0, f_lst1, f_lst2, f_lst3, f_lst4, f_lst5, f_lst6, f_lstr1, f_lstr2, f_eq_i, f_ne_i, f_eq_r, f_ne_r, f_eq_p, f_ne_p, f_eq_bl, f_ne_bl, rd_i, rd_b, rd_p, rd_rs, y_size, y_ties, y_wired, y_near, o_neighbours,
  isi_int, f_setL, f_srtU, f_srtS, f_is_bl, f_isn_bl, isi_bl, fr_dic, dic_nil, sl_dic, f_din, f_dni, f_dix, f_dic1, x_rdD, rd_dic, s_setD, set_dic, upF_const, o_ties, r_ties, isi_int_bl, isi_tup, isi_lst, isi_lt, sgx, spx, sgo, spo, og_nil, op_nil, restS, wipeS,
  List.getElem?_cons_zero, List.getElem?_cons_succ, List.set_cons_zero, List.set_cons_succ, List.getD_cons_zero, List.getD_cons_succ, List.cons_append, List.nil_append, List.append_nil, List.length_cons, List.length_nil, List.replicate_succ, List.replicate_zero, Nat.reduceSub, Nat.reduceAdd, true_and, and_true])
local macro_rules | `(tactic| walk_at "v") => `(tactic| simp only [↓len_r1i, ↓len_r1p, ↓len_r1r, w_mC, w_mVar, w_m2x, w_m1x, w_mTst, w_mAnd, w_mOr, w_mNot, w_mIf, w_mBl, w_mFr, w_mSh, w_mCons, w_mRd, w_mRv, w_pVar, w_pIx, w_mCh, w_mYes', w_m2N, w_m1N, w_mStar, w_mSeq, w_mSl, w_mPart, x_mLook, x_mUse, x_mMov, x_mItV, x_mut, x_comp,
  s_next, q_seq, kq_n, kq_r, kq_b, kq_c, s_ret, s_asg, s_sto, s_own, s_drop, s_setI, s_augI, s_aug, s_bad, s_retN, s_brk, s_cnt, s_par, s_for,
  x_call1, x_call2, x_call3, x_call4, x_call5, x_call1s, x_call2s, x_call2t, x_call3s, x_call3t, x_call3u, x_call1b, x_call2b, x_call3b, x_call4b, x_meth0, x_meth1, x_meth2, x_meth1s, x_set, set_i, set_b, en_i, en_p, en_r, f_tupO2, f_tupO3, f_tup2d, fr_t2, fr_t3, slt_ow, ix_t0, ix_t1, ix_t2, wi_t0, wi_t1, og_t0, og_t1, op_t0, op_t1, f_eq_t2, f_ne_t2, o_size, o_wired, r_size, r_wired, x_mk, mk_ok, cut_map, ls_i, ls_r, ls_p, lst_rs, lst_is,
  f_add, f_sub, f_lt, f_le, f_gt, f_ge, f_mod, f_div, f_mul, f_eq, f_ne, f_neg, b_bl, l_sh, v_pl, o_ow, o_own, a_pl, k_pl, k_ow, u_pl, u_ow, mv_pl, mv_ow, i1_int, par2_ok, wF_some, g_nm, f_tp, g_cons, g_nil, wF_map,
  fr_i, fr_p, fr_rs, fr_b, fr_sh, sl_i, sl_p, sl_rs, sl_b, sl_sh, itv_i, itv_p, itv_rs, sq_i, sq_p, sq_r, is_i, is_p, is_r, il_i, il_p, il_rs, il_b,
  m_app_i, m_app_p, m_app_rs, m_app_b, m_rev_i, m_clr_i, m_rem_i, f_len_i, f_len_p, f_len_r, f_in_i, f_ni_i, f_ix_i, f_ix_p, f_ix_r, f_ix_b, p_fst, p_snd, f_list_i, f_list_t, f_list_r, mk_i, mk_p, mk_r, f_srt_i, f_srt_p, f_rev_i, f_rev_p, f_cat_i, f_cat_r, f_cat_p, f_rep_i, minL_map, maxL_map, sum_map, all_map, any_map, f_int1, f_intB, f_max2, f_min2,
  it_r1, it_r2, f_rg, itL_i, itL_p, itL_r, itL_b, itS_i, itS_r, f_lstM, f_lst0, f_lst1, f_lst2, f_lst3, f_lst4, f_lst5, f_lst6, f_lstr1, f_lstr2, f_eq_i, f_ne_i, f_eq_r, f_ne_r, f_eq_p, f_ne_p, f_eq_bl, f_ne_bl, rd_i, rd_b, rd_p, rd_rs, y_size, y_ties, y_wired, y_near, o_neighbours,
  isi_int, f_setL, f_srtU, f_srtS, f_is_bl, f_isn_bl, isi_bl, fr_dic, dic_nil, sl_dic, f_din, f_dni, f_dix, f_dic1, x_rdD, rd_dic, s_setD, set_dic, upF_const, o_ties, r_ties, isi_int_bl, isi_tup, isi_lst, isi_lt, sgx, spx, sgo, spo, og_nil, op_nil, restS, wipeS,
  List.getElem?_cons_zero, List.getElem?_cons_succ, List.set_cons_zero, List.set_cons_succ, List.getD_cons_zero, List.getD_cons_succ, List.cons_append, List.nil_append, List.append_nil, List.length_cons, List.length_nil, List.replicate_succ, List.replicate_zero, Nat.reduceSub, Nat.reduceAdd, true_and, and_true])
theorem adj_sym1 {ts : List (Int × Int)} : ∀ u v : Int, Adj ts u v → Adj ts v u := fun _ _ h => h.symm
def lawI (S : List Sl) : Prop := ∃ (s0 : Sl) (B : O) (a b c d e f g h i j k l : Sl), S = [s0, .ow B, a, b, c, d, e, f, g, h, i, j, k, l, .no, .no] ∧ BagOk B
def somI (n : Nat) (S0 : O → List Sl) (i : Nat) (acc : List D) (S : List Sl) : Prop := ∃ (B : O) (L : List (List Int)), S = S0 B ∧ BagOk B ∧ acc = L.map iD ∧ L.length = i ∧ ∀ r ∈ L, PosOk n r
theorem law_goal (ns : List Int) (hl : ns.length ≤ 63) : wO (W.f_law [.pl (.fls (ns.map .int))]) fun o _ => o = .sh (.bl true) := by
  unfold f_law
  rw [wO_mk]
  unfold m_law
  walk_at "v"
  obtain ⟨B, e, hB⟩ := rO_ex (t_bag (ns := ns) (Q := fun o _ => BagOk o) fun B _ h => h)
  rw [e]
  walk_at "v"
  rw [bag_sl hB]
  refine ⟨by omega, ?_⟩
  refine for_keep lawI ⟨_, B, _, _, _, _, _, _, _, _, _, _, _, _, rfl, hB⟩ ?_ ?_
  · rintro x hx S ⟨s0, B, a, b, c, d, e, f, g, h, i, j, k, l, rfl, hB⟩
    walk_at "v"
    refine t_take hB (by omega) fun r B1 S1 r0 r1 hB1 e1 => ?_
    simp only [e1]
    walk_at "v"
    obtain ⟨m, hm, em⟩ := at_mem (xs := ([3, 10, 60] : List Int)) r0 (by simp; omega)
    have hm2 : 1 ≤ m ∧ m ≤ 60 := by simp at hm; omega
    rw [em]
    walk_at "v"
    refine t_take hB1 (by omega) fun q B2 S2 q0 q1 hB2 e2 => ?_
    simp only [e2]
    walk_at "v"
    obtain ⟨n, hn⟩ : ∃ n : Nat, (1 + q : Int) = n := ⟨(1 + q).toNat, by omega⟩
    generalize hsz : (1 + q : Int) = size at *
    have hn1 : 1 ≤ n := by omega
    have hn2 : n ≤ 60 := by omega
    have hsn : size.toNat = n := by omega
    refine t_ties hB2 (by omega) fun ts B3 S3 ht hB3 e3 => ?_
    rw [hsn] at ht
    simp only [e3]
    walk_at "v"
    rw [r_near hn hn2 ht]
    walk_at "v"
    have hno := near_is ht
    refine t_wires hB3 hno adj_sym1 hn hn1 hn2 fun ws B4 S4 hw hB4 e4 => ?_
    simp only [e4]
    walk_at "v"
    refine t_init hn hn1 hn2 ht hw fun S5 e5 => ?_
    simp only [e5]
    walk_at "v"
    rw [fr_yard, pos_srt hw]
    refine ⟨by omega, ⟨by rw [List.length_map, rng_len]; omega, rfl⟩, ?_⟩
    refine cmp_I (somI n fun B => [s0, .ow B, .pl (.int x), .pl (.int size), .pl (pD ts), .pl (rD (nearL n ts)), .pl (iD ws), .pl (yD size (srtP ts) ws (nearL n ts)), g, h, i, j, k, l, .no, .no]) ⟨B4, [], rfl, hB4, rfl, rfl, fun _ z => (nomatch z)⟩ ?_ ?_
    · rintro u v acc S hx ⟨B5, L, rfl, hB5, rfl, hLl, hL⟩
      walk_at "v"
      refine ⟨fun _ => ?_, fun z => (by cases z)⟩
      refine t_some hB5 hn hn1 hn2 fun up B6 S6 hu hB6 e6 => ?_
      simp only [e6]
      walk_at "v"
      refine ⟨B6, L ++ [up], rfl, hB6, by simp, by simp [hLl], fun r hr => ?_⟩
      rcases List.mem_append.mp hr with z | z
      · exact hL r z
      · simp at z; exact z ▸ hu
    · rintro ys S ⟨B5, L, rfl, hB5, rfl, hLl, hL⟩
      rw [rng_len] at hLl
      have hL4 : L.length = 4 := hLl
      have hwl := hw.len
      have hst := srtP_uniq (List.Perm.refl _) (srtP_sorted ts)
      have htl : (srtP ts).length ≤ 100 := by
        rw [(srtP_perm ts).length_eq, tree_len ht]
        omega
      have hnn : nearL n (srtP ts) = nearL n ts := by
        unfold nearL
        rw [← hst]
      have e1 : srtI [] = [] := (srtI_perm []).eq_nil
      have hsg : ∀ (w up : List Int), w.length ≤ 100 → rO (f_sign [.pl (yD size (srtP ts) w (nearL n ts)), .pl (iD up)]) = some (.sh (.int (sgnI (srtP ts) w up))) := fun w up h => r_sign htl h
      have hpc : ∀ up : List Int, PosOk n up → rO (f_pieces [.pl (yD size (srtP ts) ws (nearL n ts)), .pl (iD up)]) = some (osO (pcs (Adj ts) up)) := fun up h => r_pieces hno adj_sym1 hn2 hn h
      have hrw : rO (f_Yard_rewired [.pl (yD size (srtP ts) ws (nearL n ts)), .pl (.tup [])]) = some (yardO size n (srtP ts) []) := r_rewired0 hn hn1 hn2 (tree_srt ht)
      have hfy : fr (yardO size n (srtP ts) []) = yD size (srtP ts) [] (nearL n ts) := by rw [fr_yard, ← hst, hnn, e1]
      have hln : ∀ up : List Int, PosOk n up → ((pcs (Adj ts) up).length : Int) = (up.length : Int) - (((srtP ts).filter (insd up)).length : Int) := fun up h => by
        have h1 := pcs_len ht hn1 adj_sym1 h
        have h2 := ((srtP_perm ts).filter (insd up)).length_eq
        omega
      have hpo : ∀ w : List Int, ∀ P : Prop, wOb "Yard" "rewired" (yD size (srtP ts) w (nearL n ts)) P = P := fun w P => o_rewired
      have hsgy : ∀ up : List Int, rO (f_sign [.pl (yD size (srtP ts) ws (nearL n ts)), .pl (iD up)]) = some (.sh (.int (sgnI (srtP ts) ws up))) := fun up => hsg ws up (by omega)
      have hpo' : ∀ P : Prop, wOb "Yard" "rewired" (yD size (srtP ts) ws (nearL n ts)) P = P := hpo ws
      generalize hy : yD size (srtP ts) ws (nearL n ts) = y at *
      walk_at "v"
      rw [f_rev_r]
      walk_at "v"
      refine ⟨by rw [List.length_reverse]; omega, ?_⟩
      refine for_keep (fun S => ∃ h i j k l : Sl, S = [s0, .ow B5, .pl (.int x), .pl (.int size), .pl (pD ts), .pl (rD (nearL n ts)), .pl (iD ws), .pl y, .pl (rD L), h, i, j, k, l, .no, .no]) ⟨_, _, _, _, _, rfl⟩ ?_ ?_
      · rintro up hup S ⟨h, i, j, k, l, rfl⟩
        have hu : PosOk n up := by
          rcases List.mem_append.mp hup with z | z
          · exact hL up z
          · exact hL up (List.mem_reverse.mp z)
        have hul := hu.len
        obtain ⟨hpp, hpl⟩ := pcs_ok (n := n) (A := Adj ts) adj_sym1 hu
        have hlu := hln up hu
        have hrp : RepS (rD (pcs (Adj ts) up)) := reps_r (fun r hr => ⟨small_n (hpp r hr).1 hn2, by have := (hpp r hr).len; omega⟩) (by omega)
        walk_at "v"
        rw [r_law_pieces hno adj_sym1 hn2 hu]
        walk_at "v"
        rw [hpc up hu, fr_os]
        walk_at "v"
        rw [sl_os]
        refine ⟨⟨by rw [List.length_map]; omega, rfl⟩, ?_⟩
        refine cmp_f (isIn up) (fun q hq => ?_) ?_
        · walk_at "w"
          exact ⟨rfl, fun _ => trivial, fun _ => trivial⟩
        walk_at "v"
        have hsgn : sgnI (srtP ts) ws up = (((pcs (Adj ts) up).length : Int) + ((ws.filter (isIn up)).length : Int)) % 2 := by
          unfold sgnI
          rw [hlu]
        have hfl : (ws.filter (isIn up)).length ≤ ws.length := List.length_filter_le _ _
        generalize pcs (Adj ts) up = ps at *
        have hpsl : ps.length ≤ 60 := by omega
        have hmn : ((ps.length : Int) + ((ws.filter (isIn up)).length : Int)).natAbs < 10 ^ 12 := by omega
        obtain ⟨mn, hmn0⟩ : ∃ mn : Int, mn = (ps.length : Int) + ((ws.filter (isIn up)).length : Int) := ⟨_, rfl⟩
        rw [← hmn0] at hsgn hmn ⊢
        have hs0 : sgnI (srtP ts) [] up = (ps.length : Int) % 2 := by
          unfold sgnI
          rw [hlu, List.filter_nil]
          simp
        rw [s_if]
        walk_at "v"
        rw [fr_os, r_alike hrp]
        walk_at "v"
        refine ⟨rfl, fun z => (by cases z), fun _ => ?_⟩
        rw [hsgy up]
        walk_at "v"
        rw [hsgn, r_alike (reps_int (by omega))]
        walk_at "v"
        simp only [il_os, m_app_os, true_and]
        refine ⟨by omega, fun z => (by cases z), fun _ => ⟨fun z => absurd z (by simp), fun _ => ⟨by omega, ?_⟩⟩⟩
        obtain ⟨x0, rest, ex⟩ : ∃ x0 rest, ps ++ [[]] = x0 :: rest := by
          cases ps with
          | nil => exact ⟨_, _, rfl⟩
          | cons p ps => exact ⟨_, _, rfl⟩
        have hx0 : x0.length ≤ n := by
          have : x0 ∈ ps ++ [[]] := by rw [ex]; exact List.mem_cons_self
          rcases List.mem_append.mp this with z | z
          · exact (hpp x0 z).len
          · simp at z; rw [z]; exact Nat.zero_le _
        have hos : osO (ps ++ [[]]) = .lst (iO x0 :: rest.map iO) := by rw [ex]; rfl
        rw [hos]
        refine seq_join (fun S' => ∃ o : O, S' = [s0, .ow B5, .pl (.int x), .pl (.int size), .pl (pD ts), .pl (rD (nearL n ts)), .pl (iD ws), .pl y, .pl (rD L), .pl (iD up), .pl (rD ps), .pl (iD up), .ow o, .pl (.int mn), .no, .no]) ?_ ?_
        · rw [s_if]
          walk_at "v"
          simp only [wi_l0, og_l0, op_l0, wF_some]
          walk_at "v"
          refine ⟨fun _ => ⟨by omega, _, rfl⟩, fun _ => ⟨_, rfl⟩⟩
        · rintro S' ⟨o, rfl⟩
          walk_at "v"
          rw [s_if]
          walk_at "v"
          simp only [hpo', f_tup0, fr_t0, hrw]
          walk_at "v"
          rw [hfy, hsg [] up (by simp)]
          walk_at "v"
          rw [hs0]
          refine ⟨by omega, fun z => absurd z (by simp), fun _ => ⟨_, _, _, _, _, rfl⟩⟩
      · rintro S ⟨h, i, j, k, l, rfl⟩
        exact ⟨_, B5, _, _, _, _, _, _, _, _, _, _, _, _, rfl, hB5⟩
  · rintro S ⟨s0, B, a, b, c, d, e, f, g, h, i, j, k, l, rfl, hB⟩
    walk_at "v"
theorem law_ok (ns : List Int) (hl : ns.length ≤ 63) : ∃ S, W.f_law [.pl (.fls (ns.map D.int))] = .ok (.sh (.bl true)) S := by
  have h := law_goal ns hl
  cases e : W.f_law [.pl (.fls (ns.map D.int))] with
  | ok o S =>
    rw [e] at h
    have h' : o = .sh (.bl true) := h
    exact ⟨S, by rw [h']⟩
  | exc _ _ _ _ => rw [e] at h; exact h.elim
  | bad => rw [e] at h; exact h.elim
end W

namespace W
open PySem PySem.Spec PyProof.Rows L2 Z
def nm0 : List PySem.Str := ["pieces", "sign", "OddError", "Wrong", "NotTree", "is_integer", "is_post", "are_posts", "MOST_SIZE", "is_tie", "check_tree", "near_of"]
def nm1 : List PySem.Str := ["toward_of", "Yard", "_law_bag", "_law_take", "_law_parents", "_law_ties", "_law_some", "_law_near", "_law_wires", "_law_pieces", "_law_alike"]
def nms : List PySem.Str := nm0 ++ (nm1)
abbrev R : PySem.W.OpenRow := PySem.W.OpenLaw.row PySem.Challenge.rw_oddposts_k23_pieces_and_signs
abbrev hk : PySem.W.Hook := He.hookD 5 fa fn
def ob (s : PySem.W.SharedT) : He.AlD := He.obsDG 5 fa fn (HandSHeadRun.getT s)
theorem ob_eq (s : PySem.W.SharedT) : ob s = hk.obs s.abs := He.obsDG_eq (HandSHeadRun.getT_eq s)
theorem run (w : World) : HandSHeadRun.RunEq R (PySem.W.view R.prog [28]) hk ob 4000 nms w := by
  intro os
  kernel_rfl

end W
open PySem PySem.W PySem.Calls PyProof.Rows
theorem PySem.Challenge.cw_oddposts_k23_pieces_and_signs_holds : PySem.Challenge.rw_oddposts_k23_pieces_and_signs.Holds := by
  w_on; o_law
  refine HandSHeadRun.head_any (r := OpenLaw.row PySem.Challenge.rw_oddposts_k23_pieces_and_signs) (q := view (OpenLaw.row PySem.Challenge.rw_oddposts_k23_pieces_and_signs).prog [28]) (H := W.hk) (ob := W.ob) (M := 4000) (loose := W.nms) (d := HandSHeadRun.topDef (OpenLaw.row PySem.Challenge.rw_oddposts_k23_pieces_and_signs).prog 28) (kwd := []) W.ob_eq
    (by kernel_rfl) (fun s => by kernel_rfl) W.run (by kernel_rfl) (by kernel_rfl) (by kernel_rfl) (by rfl) (by first | assumption | decide +kernel) (by decide +kernel) ⟨rfl, rfl, rfl, rfl, rfl, by decide +kernel⟩ ?hw ?hc
  case hw => w_witness2
  case hc =>
    refine Z.walkG (l := PySem.Challenge.rw_oddposts_k23_pieces_and_signs) (n := 63) (k := 8) (x := "_law_script") rfl (by decide) (by kernel_rfl) ⟨rfl, by decide, by decide⟩ ?F
    intro w mg fa h Y G hmg0
    obtain ⟨K, KX, cc⟩ := Y
    have hmg : mg ("law" : PySem.Str) = some (.ref fa) := by
      have e : (HandSHeadRun.topDef (OpenLaw.row PySem.Challenge.rw_oddposts_k23_pieces_and_signs).prog 28).name = ("law" : PySem.Str) := by kernel_rfl
      rw [← e]
      exact hmg0
    have e := hmg.symm.trans (He.glo_ok KX G (cc.fact 43 (f := .glo "law") rfl))
    cases e
    obtain ⟨fd, F⟩ := cc.def_ 22 (d := W.d_law) rfl
    have b := L2.FunD.bindsA (ps := ["_law_script"]) F fun _ _ _ _ _ _ us hl => match us, hl with | [_], _ => rfl
    refine ⟨K, fd, Z.spM (W.ev K) 1 [] W.f_law, KX, fun s v => b s [v] rfl, fun H a ns hl hO hS => Z.law_sp hO hS (W.law_ok ns hl), fun base kb nb => ?_⟩
    exact W.bd_law (P := (PySem.Challenge.rw_oddposts_k23_pieces_and_signs).prog) (w := w) (base := base) KX G cc F

